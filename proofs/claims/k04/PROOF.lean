import PyProof.Rows.All
import Wide.All
import OpenK.AllK
import Wide.FinOn
import KE.KExcSuper
import KE.KExcInit
import KE.KTryMore
import HandS.ForMost
import HandS.ForExc
import HandS.ExcInit
import HandS.ExcIs
import KE.KExcIs
import HandS.IsInst
import HandS.ExcField
import HandS.Star
import HandS.Wide
import HandS.Evl
import HandS.EndBits
import HandS.Defaults
import PyProof.ReprRoads
import HandS.Style
import HandS.FStr
import KE.KUnpackStar
import HandS.Comp
import PySem.Challenge.RW_roompace_k04_measures_and_multiples
set_option Elab.async false
set_option linter.all false
set_option maxRecDepth 100000
set_option maxHeartbeats 4000000
/-! Making an exception of an own class whose __init__ says super().__init__(text) and then self.field = argument. -/
namespace Rm
open PySem PySem.W PySem.Calls PyProof.Rows

/-- the two statements of such an __init__ -/
def xBody (msg fld : Str) (p0 p1 p2 p3 p4 p5 p6 p7 p8 p9 : Pos) (k : Nat) : List Stmt :=
  [.Expr (.Call (.Attribute (.Call (.Name "super" p0) [] [] p1) "__init__" p2) [.Constant (.str msg) k p3] [] p4) p5,
   .Assign [.Attribute (.Name "self" p6) fld p7] (.Name fld p8) p9]

/-- what the written part says of such a class -/
structure XCls (prog : Program) (K : Frag) (mg : Str → Option Value) (B newId initId : String) (bmB : List Value) (fld : Str) (C : Addr) : Prop where
  fb : ExcBaseFacts B newId initId bmB
  kf : KxsFacts B initId
  sf : StoreFacts B bmB "object.__setattr__" "object"
  ei : excInitIn K C bmB newId = true
  eo : excOver K C bmB = true
  fn : ∃ (fI cc cda : Addr) (oc : Value) (od : Option Addr) (osl : Array (Option Value)) (qual : Str) (params : Arguments) (scope : Scope) (dV kV doc pm ct : Value) (an : Option Addr) (msg : Str)
      (p0 p1 p2 p3 p4 p5 p6 p7 p8 p9 : Pos) (kk : Nat) (cl : Value) (cld : Option Addr) (csl : Array (Option Value)) (ccl : Value) (cdd : Option Addr) (vs : Array Value) (ccs : Array (Option Value)) (file : Str) (tf : Tok),
    findIn K (.ref C) "__init__" = some (some (.ref fI)) ∧ isFn K (.ref fI) = true ∧
    K.lookup fI = some ⟨oc, od, .func (ksFn "__init__" qual params (xBody msg fld p0 p1 p2 p3 p4 p5 p6 p7 p8 p9 kk) scope dV kV doc pm an (.ref cda) ct cc), osl⟩ ∧
    codeIn K (.ref cda) qual = true ∧
    K.lookup cc = some ⟨cl, cld, .cell (some (.ref C)), csl⟩ ∧
    K.lookup cda = some ⟨ccl, cdd, .fields vs, ccs⟩ ∧ vs[2]? = some (.str file tf) ∧ ((prog.main.file : Str) == file) = true ∧
    (params.posonlyargs ++ params.args).head?.map (·.arg) = some ("self" : Str) ∧
    (∀ (s : Shared) (a b : Value), BindsTo s (ksFn "__init__" qual params (xBody msg fld p0 p1 p2 p3 p4 p5 p6 p7 p8 p9 kk) scope dV kV doc pm an (.ref cda) ct cc) ⟨[a, b], []⟩ [("self", a), (fld, b)]) ∧
    (∀ (s : Shared) (a b : Value), BindsTo s (ksFn "__init__" qual params (xBody msg fld p0 p1 p2 p3 p4 p5 p6 p7 p8 p9 kk) scope dV kV doc pm an (.ref cda) ct cc) ⟨[a], [(fld, b)]⟩ [("self", a), (fld, b)]) ∧
    scope.names.lookup ("super" : Str) = some .globalImplicit ∧ scope.names.lookup ("__class__" : Str) = some .free ∧ scope.names.lookup ("self" : Str) = some .local ∧ scope.names.lookup fld = some .local ∧
    (∀ x ∈ scope.names, x.2 ≠ .cell) ∧ scope.isCoroutine = false ∧ scope.isGenerator = false ∧ scope.kind = .function ∧
    (∀ L : Addr, ∃ pl : Sem Bool, eval (.Call (.Attribute (.Call (.Name "super" p0) [] [] p1) "__init__" p2) [.Constant (.str msg) kk p3] [] p4) (ksEnv qual scope L fI (.ref cda) cc) = (do
      let ov ← attributeBase (.Call (.Name "super" p0) [] [] p1) "__init__" (ksEnv qual scope L fI (.ref cda) cc) (eval (.Call (.Name "super" p0) [] [] p1) (ksEnv qual scope L fI (.ref cda) cc))
      standAt p2.atName
      let (g, first) ← holding [ov] (getMethod ov "__init__" pl)
      callWith p4 g first (backTo p4 (starEach [.Constant (.str msg) kk p3] (ksEnv qual scope L fI (.ref cda) cc))) []))
  fs : ¬ ("self" : Str) = fld
  fd : (fld == ("__debug__" : Str)) = false
  fcd : (fld == ("__classdict__" : Str)) = false
  su : mg "super" = none
  cd : ∃ cd, clsIn K C = some cd
  sup : ks_superIn K C C "__init__" = some (some (.builtin initId))
  sB : subIn K (.ref C) (.type B) = some true
  sC : subIn K (.ref C) (.ref C) = some true
  op : nsIn K cStatics "thirdparty.any" = some none
  sa : findIn K (.ref C) "__setattr__" = some (some (.builtin "object.__setattr__"))
  tk : takerIn K C fld = some none
  hd : hasDictIn K C = true
  top : (prog.main.scope.names.lookup ("super" : Str)).isSome = false
end Rm
namespace Rm
open PySem PySem.W PySem.Calls PyProof.Rows
open Builtin Builtin.ObjectAttr
section
variable {prog : Program} {w : World} {A : Around} {E : Value → Shared → Prop} {R : Result → Shared → Prop} {s : Shared} {K : Frag} {mg mb : Str → Option Value} {B newId initId fieldN : String} {bmB : List Value} {fld : Str} {C : Addr}

/-- self.fld = v on an exception that has no dict yet, any base -/
theorem x_store {x t : Addr} {v : Value} {tk : Tok} (T : XCls prog K mg B newId initId bmB fld C) (X : K.In s.heap) (hx : s.heap.get? x = some (excObj C t none .none))
    (hq : ∀ h' tk' dx, (∀ b o, b ≠ x → s.heap.get? b = some o → h'.get? b = some o) → s.heap.objs.size ≤ dx → dx ≠ x → h'.get? x = some (excObj C t (some dx) .none) →
      h'.Ns1 dx (fun y => if y = fld then some v else none) → R (.ok (.ret .none)) { s with heap := h', toks := tk' }) :
    codeAny (model prog w) A (.call (.builtin "object.__setattr__") ⟨[.ref x, .str fld tk, v], []⟩) R s := by
  have I : InstAt s.heap x (excObj C t none .none) C none := ⟨hx, rfl, rfl, trivial⟩
  have hxs : x ≠ s.heap.objs.size := Nat.ne_of_lt (Heap.lt_size hx)
  obtain ⟨cd, hcd⟩ := T.cd
  have hcls : Looks (model prog w) s.heap (classData C) cd := looks_clsIn X hcd
  have hh : cd.hasDict = true := by
    have := T.hd
    unfold hasDictIn at this
    rw [hcd] at this
    exact this
  refine osa_openX T.sf X I T.eo T.tk fun b => ?_
  obtain ⟨hp, g, d, t0, os⟩ := s
  obtain ⟨nm, bs, mro, ns, qn, hd', sn, sb, ab, col, del⟩ := cd
  dsimp only at hh
  subst hh
  show wpAny _ _ (storeInOwnDict (.ref x) (.ref C) (.str fld tk) fld v b) _ _ _
  unfold storeInOwnDict ownDictForStores
  repeat (first | with_reducible refine HandSPX.store_in_new ?_ ?_ | with_reducible refine wpAny_loadPart_at hx ?_ | with_reducible refine hcls.at ?_ | wp_step)
  · exact ⟨_, #[], _, (Heap.get?_update_ne _ _ _ _ hxs.symm).trans (Heap.get?_push_at rfl rfl), rfl, fun e he => absurd he (by simp), fun _ => rfl⟩
  · intro h' tk' hn' hs
    have hx1 := Heap.get?_push_of_some (h := hp) { cls := .type "dict", data := .dict #[] } hx
    refine hq h' tk' hp.objs.size (fun b o hb ho => ?_) (Nat.le_refl _) hxs.symm ?_ hn'
    · exact (hs.2 b (Nat.ne_of_lt (Heap.lt_size ho))).trans ((Heap.get?_update_ne _ _ _ _ hb).trans (Heap.get?_push_of_some _ ho))
    · exact (hs.2 x hxs).trans (Heap.get?_update_self _ hx1 rfl)
end
end Rm
namespace Rm
open PySem PySem.W PySem.Calls PyProof.Rows
section
variable {prog : Program} {w : World} {A : Around} {E : Value → Shared → Prop} {R : Result → Shared → Prop} {s : Shared} {K : Frag} {mg mb : Str → Option Value} {B newId initId fieldN : String} {bmB : List Value} {fld : Str} {C : Addr}

/-- the globals and the built-ins stand in the heap -/
structure Gnd (K : Frag) (mg : Str → Option Value) (h : Heap) : Prop where
  k : K.In h
  g : h.Ns mainGlobals mg
  b : ∃ mb, h.Ns builtinsNs mb ∧ ∀ x : Str, x ≠ "__name__" → mb x = bootBuiltins x
  l : h.NoLimit
theorem Gnd.keeps {h h' : Heap} (G : Gnd K mg h) (k : ∀ b o, h.get? b = some o → h'.get? b = some o) : Gnd K mg h' := by
  obtain ⟨a, b, ⟨mb, c, d⟩, l⟩ := G
  exact ⟨a.keeps k, b.keeps k, ⟨mb, c.keeps k, d⟩, l.keeps k⟩

theorem x_body {e t L f cc cda : Addr} {q msg : Str} {scope : Scope} {u : Value} {p0 p1 p2 p3 p4 p5 p6 p7 p8 p9 : Pos} {kk : Nat}
    {body : List Stmt} {of oc : Obj} {fd : FuncData} {ar : Arg} {vs : Array Value} {file : Str} {tf : Tok} {m : Str → Option Value}
    (T : XCls prog K mg B newId initId bmB fld C) (G : Gnd K mg s.heap) (he : s.heap.get? e = some (excObj C t none .none)) (heK : K.lookup e = none)
    (hL : s.heap.Ns L m) (m1 : m "self" = some (.ref e)) (m2 : m fld = some u)
    (hf : s.heap.get? f = some of) (hfd : of.data = .func fd) (hp : (fd.params.posonlyargs ++ fd.params.args).head? = some ar) (har : ar.arg = "self")
    (hcc : s.heap.get? cda = some oc) (hoc : oc.data = .fields vs) (hvs : vs[2]? = some (.str file tf)) (hfile : ((prog.main.file : Str) == file) = true)
    (hcell : s.heap.IsCell cc (some (.ref C)))
    (sk1 : scope.names.lookup ("super" : Str) = some .globalImplicit) (sk2 : scope.names.lookup ("__class__" : Str) = some .free) (sk3 : scope.names.lookup ("self" : Str) = some .local) (sk4 : scope.names.lookup fld = some .local)
    (hk : scope.kind = .function) {pl : Sem Bool}
    (hev : eval (.Call (.Attribute (.Call (.Name "super" p0) [] [] p1) "__init__" p2) [.Constant (.str msg) kk p3] [] p4) (ksEnv q scope L f (.ref cda) cc) = (do
      let ov ← attributeBase (.Call (.Name "super" p0) [] [] p1) "__init__" (ksEnv q scope L f (.ref cda) cc) (eval (.Call (.Name "super" p0) [] [] p1) (ksEnv q scope L f (.ref cda) cc))
      standAt p2.atName
      let (g, first) ← holding [ov] (getMethod ov "__init__" pl)
      callWith p4 g first (backTo p4 (starEach [.Constant (.str msg) kk p3] (ksEnv q scope L f (.ref cda) cc))) []))
    (hq : ∀ h' t1 dx tk', (∀ b o, b ≠ e → s.heap.get? b = some o → h'.get? b = some o) → s.heap.objs.size ≤ dx → dx ≠ e → h'.get? e = some (excObj C t1 (some dx) .none) →
      h'.Ns1 dx (fun y => if y = fld then some u else none) → R (.ok (.ret .none)) { s with heap := h', toks := tk' }) :
    _root_.PySem.wpAt (model prog w) A (.func body (ksEnv q scope L f (.ref cda) cc)) (execs (xBody msg fld p0 p1 p2 p3 p4 p5 p6 p7 p8 p9 kk) (ksEnv q scope L f (.ref cda) cc))
      (fun fl s' => R (.ok (.ret (match fl with | .ret v => v | _ => .none))) s') E s := by
  obtain ⟨cd, hcd⟩ := T.cd
  obtain ⟨mb, hmb, hbb⟩ := G.b
  have eL : L ≠ e := fun z => by
    obtain ⟨oL, es, ep, h1, h2, _⟩ := hL
    rw [z, he] at h1
    cases h1
    cases h2
  unfold xBody
  refine ks_wpAt_execs_cons (ks_wpAt_Expr_any (ks_wpAt_MethodCall (ks_wpAt_super_base (env := ksEnv q scope L f (.ref cda) cc) sk1 sk2 (by decide +kernel) rfl hf hfd hp rfl hcc hoc hvs hfile T.top ?_) hev) (by unfold interactive; simp [hk]; done))
  obtain ⟨hh, g, d, t0, os⟩ := s
  obtain ⟨oD, hD1, hD2⟩ : ∃ oD, hh.get? C = some oD ∧ oD.data = .cls cd := by
    unfold clsIn at hcd
    split at hcd
    · rename_i c d cd' sl ho
      cases hcd
      exact ⟨_, G.k _ _ ho, rfl⟩
    · cases hcd
  refine ks_loadName_global hk sk1 (loadGlobal_builtin (env := ksEnv q scope L f (.ref cda) cc) G.g T.su hmb ((hbb _ (by decide +kernel)).trans (by decide +kernel)) ⟨rfl, ?_⟩)
  refine wpAny_loadName_free hk sk2 rfl hcell ?_
  refine wpAny_loadName_local hk (by rw [har]; exact sk3) hL (by rw [har]; exact m1) ?_
  refine ks_wpAny_isType_cls hD1 hD2 ⟨rfl, ?_⟩
  refine ks_wpAny_call_super hD1 hD2 he rfl (fun c z => by cases z) (looks_subIn G.k T.sC) (fun h1 hso k1 => ?_)
  have G1 := G.keeps (h' := h1) k1
  have he1 := k1 _ _ he
  have I1 : InstAt h1 e (excObj C t none .none) C none := ⟨he1, rfl, rfl, trivial⟩
  have hI : Looks (model prog w) h1 (isInstance (.ref e) (.type B)) true := I1.type.andThen (looks_subIn G1.k T.sB)
  have hsp := T.sup
  unfold ks_superIn at hsp
  rw [hcd] at hsp
  refine kxs_getMethod T.kf hso (looks_opaque G1.k T.op) (l₀ := cd.mro) (fun A Q E s k q => wpAny_bind ((looks_clsIn G1.k hcd) A _ E s k (wpAny_pure q))) rfl G1.k hsp hI (fun z => ?_) (by decide +kernel) ?_
  · rw [z, hD1] at he
    cases he
    cases hD2
  -- the method-wrapper stands
  have hmw : (h1.push (kxs_mw initId e)).get? h1.objs.size = some (kxs_mw initId e) := Heap.get?_push_at rfl rfl
  have k2 : ∀ b o, h1.get? b = some o → (h1.push (kxs_mw initId e)).get? b = some o := fun b o z => Heap.get?_push_of_some _ z
  have he2 := k2 _ _ he1
  refine kxs_callWith (i := initId) (x := e) rfl ?_
  have hse : starEach [Expr.Constant (.str msg) kk p3] (ksEnv q scope L f (.ref cda) cc) = (false, eval (.Constant (.str msg) kk p3) (ksEnv q scope L f (.ref cda) cc)) :: starEach [] (ksEnv q scope L f (.ref cda) cc) := by rfl
  rw [hse]
  refine evalArgs_plain ?_
  have goal : ∀ {Q : List Value → Shared → Prop} {s1 : Shared}, (∀ tk, Q [.str msg tk] { s1 with toks := s1.toks + 1 }) → wpAny (model prog w) A (spliced (backTo p4 (starEach [Expr.Constant (.str msg) kk p3] (ksEnv q scope L f (.ref cda) cc)))) Q E s1 := fun {Q s1} h =>
    spliced_more (wpAny_Constant_str (spliced_none (h _)))
  refine goal fun tk => ⟨hmw, ?_⟩
  -- BaseException.__init__ lays the args anew
  obtain ⟨nm, N', qn, bs, bm, hdct, sn, sub, ab, col, dd, k0, k3, k4, k5, k6, hC, hT⟩ := excInit_of G1.k T.ei
  refine wpAny_call (codeAny_of_tree ?_)
  show wpAny _ A.in1 (callAny (.ref h1.objs.size) ⟨[.str msg tk], []⟩) _ _ _
  simp only [callAny]
  refine wpAny_bind (wpAny_load hmw ?_)
  simp only [kxs_mw]
  refine KFB.if_so (by decide) (wpAny_bind (check_bound_init T.fb.toExcCallFacts (k2 _ _ hC) he2 rfl ?_))
  refine wpAny_bind (wpAny_pure (wpAny_pure ⟨plainId_quiet T.fb.init.plain _, codeAny_builtin T.fb.initEntry ?_⟩))
  refine exc_init_tree (cls := .ref C) (t0 := t) (dv := none) (c2 := .none) (c3 := .none) (b4 := .bool false) he2 (by rw [sizeLine_eq]; show 1 ≤ 16777216; decide) (fun h3 k3' he3 _ => ?_)
  have k13 : ∀ b o, b ≠ e → hh.get? b = some o → h3.get? b = some o := fun b o hb z => k3' b o hb (k2 _ _ (k1 _ _ z))
  have X3 : K.In h3 := fun b o z => k13 b o (fun y => by
    rw [y, heK] at z
    cases z) (G.k _ _ z)
  have hL3 : h3.Ns L m := by
    obtain ⟨oL, es, ep, z1, z2⟩ := hL
    exact ⟨oL, es, ep, k13 _ _ eL z1, z2⟩
  -- self.field = field
  refine wpAt_of_wpAny (wpAny_execs_cons (plainObj_wpAny_Assign_Attribute (wpAny_Name (wpAny_loadName_local hk sk4 hL3 m2 ?_) T.fd) rfl))
  refine wpAny_Name (wpAny_loadName_local hk sk3 hL3 m1 ?_) (by decide)
  refine set_plain X3 (ox := excObj C _ none .none) (od := none) ⟨he3, rfl, rfl, trivial⟩ T.sa ?_
  refine x_store T X3 he3 fun h4 tk' dx k4' hdx hde he4 hn4 => ?_
  refine wpAny_execs_nil ?_
  have sz : hh.objs.size ≤ dx := by
    exact Nat.le_trans (Nat.le_of_lt (Heap.lt_size (k3' _ _ (Nat.ne_of_gt (Heap.lt_size he)) (k2 _ _ hso)))) hdx
  exact hq h4 _ dx tk' (fun b o hb z => k4' b o hb (k13 b o hb z)) sz hde he4 hn4

/-- the call of such an __init__: R of the answer None, whatever the tokens -/
theorem x_call {e t fI : Addr} {u : Value} {args : Args} (T : XCls prog K mg B newId initId bmB fld C) (G : Gnd K mg s.heap) (he : s.heap.get? e = some (excObj C t none .none)) (heK : K.lookup e = none) (hroom : A.depth < recursionLimit)
    (hi : findIn K (.ref C) "__init__" = some (some (.ref fI))) (ha : args = ⟨[.ref e, u], []⟩ ∨ args = ⟨[.ref e], [(fld, u)]⟩)
    (hq : ∀ h' t1 dx tk', (∀ b o, b ≠ e → s.heap.get? b = some o → h'.get? b = some o) → s.heap.objs.size ≤ dx → dx ≠ e → h'.get? e = some (excObj C t1 (some dx) .none) →
      h'.Ns1 dx (fun y => if y = fld then some u else none) → R (.ok (.ret .none)) { s with heap := h', toks := tk' }) :
    codeAny (model prog w) A (.call (.ref fI) args) R s := by
  obtain ⟨fI', cc, cda, oc, od, osl, qual, params, scope, dV, kV, doc, pm, ct, an, msg, p0, p1, p2, p3, p4, p5, p6, p7, p8, p9, kk, cl, cld, csl, ccl, cdd, vs, ccs, file, tf, f1, f2, f3, f4, f5, f6, f7, f8, f9, b1, b2, k1, k2, k3, k4, k5, k6, k7, k8, hev⟩ := T.fn
  rw [hi] at f1
  cases f1
  obtain ⟨ar, har, har2⟩ : ∃ ar, (params.posonlyargs ++ params.args).head? = some ar ∧ ar.arg = "self" := by
    cases z : (params.posonlyargs ++ params.args).head? with
    | none => rw [z] at f9; cases f9
    | some ar => rw [z] at f9; exact ⟨ar, rfl, Option.some.inj f9⟩
  have hbind : BindsTo s (ksFn "__init__" qual params (xBody msg fld p0 p1 p2 p3 p4 p5 p6 p7 p8 p9 kk) scope dV kV doc pm an (.ref cda) ct cc) args [("self", .ref e), (fld, u)] := by
    rcases ha with rfl | rfl
    · exact b1 _ _ _
    · exact b2 _ _ _
  refine ks_codeAny_call_defAt (fd := ksFn "__init__" qual params (xBody msg fld p0 p1 p2 p3 p4 p5 p6 p7 p8 p9 kk) scope dV kV doc pm an (.ref cda) ct cc) (body := xBody msg fld p0 p1 p2 p3 p4 p5 p6 p7 p8 p9 kk)
    (binds := [("self", .ref e), (fld, u)]) hroom (G.k _ _ f3) rfl G.l (codeRec_of G.k f4) rfl hbind k5 ?_ (fun h1 hns hk1 => ?_) k6 k7 k8
  · intro x hx
    rcases List.mem_cons.mp hx with rfl | hx
    · exact k3
    · rcases List.mem_cons.mp hx with rfl | hx
      · exact k4
      · cases hx
  · obtain ⟨pl, hpl⟩ := hev s.heap.objs.size
    have G1 := G.keeps (h' := h1) hk1
    have e1 := hk1 _ _ he
    refine x_body (s := { s with heap := h1, toks := s.toks + 2 }) (e := e) (t := t) (L := s.heap.objs.size) (f := fI) (cc := cc) (cda := cda) (u := u) T G1 e1 heK hns ?_ ?_ (G1.k _ _ f3) rfl har har2 (G1.k _ _ f6) rfl f7 f8 ⟨_, G1.k _ _ f5, rfl⟩ k1 k2 k3 k4 k8 hpl (fun h' t1 dx tk' a1 a2 a3 a4 a5 => ?_)
    · have z : (("self" : Str) == fld) = false := beq_false_of_ne T.fs
      show List.lookup ("self" : Str) [(fld, u), ("self", Value.ref e)] = some (Value.ref e)
      rw [List.lookup, z]
      simp [List.lookup]
    · show List.lookup fld [(fld, u), ("self", Value.ref e)] = some u
      simp [List.lookup]
    · refine hq h' t1 dx tk' (fun b o hb z => a1 b o hb (hk1 _ _ z)) (Nat.le_trans ?_ a2) a3 a4 a5
      obtain ⟨oL, es, ep, z1, _⟩ := hns
      exact Nat.le_of_lt (Heap.lt_size z1)
end
end Rm
namespace Rm
open PySem PySem.W PySem.Calls PyProof.Rows PySem.Spec L2
/-- an exception at a, of the class cls, its own dict at d; fr: not raised yet -/
def xV (a : Addr) (cls : Value) (d : Option Addr) (fr : Bool) : HO := .ext fun h => ∃ (o : Obj) (vs : Array Value), h.get? a = some o ∧ Zc cls d o ∧ o.data = .fields vs ∧ (fr = true → vs[1]? = some .none)
theorem xV_ok {P : Program} {w : World} {H : Hp} {h : Heap} {a : Addr} {cls : Value} {d : Option Addr} {fr : Bool} {o : Obj} {vs : Array Value} (e : h.get? a = some o) (z : Zc cls d o) (dd : o.data = .fields vs) (h1 : fr = true → vs[1]? = some .none) : ObjOk P w H h a (xV a cls d fr) :=
  ⟨⟨o, vs, e, z, dd, h1⟩, ⟨o, e⟩, fun _ _ y k => by
    obtain ⟨o', vs', y1, y2⟩ := y
    exact ⟨o', vs', k _ y1, y2⟩⟩
theorem xV_at {P : Program} {w : World} {H : Hp} {h : Heap} {a : Addr} {cls : Value} {d : Option Addr} {fr : Bool} (hok : HOk P w H h) (e : H a = some (xV a cls d fr)) :
    ∃ (o : Obj) (vs : Array Value), h.get? a = some o ∧ Zc cls d o ∧ o.data = .fields vs ∧ (fr = true → vs[1]? = some .none) := (hok a _ e).1
theorem xd_ok {P : Program} {w : World} {H : Hp} {h : Heap} {dx : Addr} {f : Str} {v : V} {u : Value} (r : RelV v u) (hn : h.Ns1 dx (fun y => if y = f then some u else none)) : ObjOk P w H h dx (.xd [(f, v)]) :=
  ⟨_, hn, fun g => by
    by_cases e : g = f
    · subst e
      simp [List.lookup]
      exact r
    · have e' : (g == f) = false := by simpa using e
      simp only [List.lookup, e', if_neg e]
      trivial⟩

section
variable {X : Cx} {B newId initId : String} {bmB : List Value} {fld : Str} {C : Addr} {pins : List (Addr × Obj)} {σ : L2.St} {H : Hp} {s : Shared}
theorem gnd_of (I : Inv X pins σ H s) : Gnd X.K X.mg s.heap := by
  obtain ⟨mb, h1, h2⟩ := I.mod.blt
  exact ⟨I.kIn, I.mod.glob.keeps I.bk, ⟨mb, h1.keeps I.bk, h2⟩, I.nolimit⟩
theorem x_new {u : Value} {Q : Value → Shared → Prop} {E : Value → Shared → Prop} (T : XCls X.prog X.K X.mg B newId initId bmB fld C) (hr : Room 1 X.A) (I : Inv X pins σ H s)
    (hq : ∀ h' a t dx tk', (∀ b o, s.heap.get? b = some o → h'.get? b = some o) → s.heap.objs.size ≤ a → s.heap.objs.size ≤ dx → dx ≠ a → h'.get? a = some (excObj C t (some dx) .none) →
      h'.Ns1 dx (fun y => if y = fld then some u else none) → Q (.ref a) { s with heap := h', toks := tk' }) :
    wpAny (model X.prog X.w) X.A (call (.ref C) [u]) Q E s := by
  obtain ⟨fI, _, _, _, _, _, _, _, _, _, _, _, _, _, _, _, _, _, _, _, _, _, _, _, _, _, _, _, _, _, _, _, _, _, _, _, f1, f2, f3, _⟩ := T.fn
  obtain ⟨nm, N', qn, bs, bm, hdct, sn, sub, ab, col, dd, k0, k3, k4, k5, k6, hC, hT⟩ := excInit_of I.kIn T.ei
  have G := gnd_of I
  obtain ⟨hh, g, d, t0, os⟩ := s
  have kp : ∀ b o, hh.get? b = some o → ((hh.push (kdv_tup [u])).push (HandSPX.excO C hh.objs.size)).get? b = some o := fun b o e => Heap.get?_push_of_some _ (Heap.get?_push_of_some _ e)
  have hget : ((hh.push (kdv_tup [u])).push (HandSPX.excO C hh.objs.size)).get? (hh.objs.size + 1) = some (HandSPX.excO C hh.objs.size) := by heap_get
  have tf : typeIn X.K (.ref fI) = some (.type "function") := by
    unfold isFn at f2
    exact eq_of_beq f2
  refine wpAny_call (HandSPX.call_own T.fb hT hC (looks_findIn I.kIn f1) (fun self => bind_fn I.kIn self tf) (by rw [sizeLine_eq]; show 1 ≤ 16777216; decide) ?_)
  refine x_call (s := ⟨(hh.push (kdv_tup [u])).push (HandSPX.excO C hh.objs.size), g, d, t0, os⟩) (e := hh.objs.size + 1) (t := hh.objs.size) T (G.keeps kp) hget ?_ ?_ f1 (.inl rfl) (fun h' t1 dx tk' a1 a2 a3 a4 a5 => ?_)
  · cases z : X.K.lookup (hh.objs.size + 1) with
    | none => rfl
    | some o => exact absurd (Heap.lt_size (I.kIn _ _ z)) (by show ¬ hh.objs.size + 1 < hh.objs.size; omega)
  · have := hr.dp
    rw [make_depth]
    omega
  · refine ⟨rfl, ?_⟩
    refine hq h' (hh.objs.size + 1) t1 dx tk' (fun b o z => a1 b o (Nat.ne_of_lt (Nat.lt_succ_of_lt (Heap.lt_size z))) (kp b o z)) (Nat.le_succ _) (Nat.le_trans ?_ a2) a3 a4 a5
    exact Nat.le_of_lt (Nat.lt_of_succ_lt (Heap.lt_size hget))

/-- the heap with such an exception is a state of ours -/
theorem x_laid {h' : Heap} {a t dx : Addr} {tk : Nat} {v : V} {u : Value} (I : Inv X pins σ H s) (k : ∀ b o, s.heap.get? b = some o → h'.get? b = some o) (ha : s.heap.objs.size ≤ a) (hd : s.heap.objs.size ≤ dx) (nd : dx ≠ a)
    (he : h'.get? a = some (excObj C t (some dx) .none)) (hn : h'.Ns1 dx (fun y => if y = fld then some u else none)) (r : RelV v u) :
    Inv X pins σ (upd (upd H dx (.xd [(fld, v)])) a (xV a (.ref C) (some dx) true)) { s with heap := h', toks := tk } := by
  have na := I.hok.fresh ha
  have nx := I.hok.fresh hd
  have lt : ∀ {b : Addr} {o : Obj}, s.heap.get? b = some o → b ≠ a ∧ b ≠ dx := fun {b o} z =>
    ⟨Nat.ne_of_lt (Nat.lt_of_lt_of_le (Heap.lt_size z) ha), Nat.ne_of_lt (Nat.lt_of_lt_of_le (Heap.lt_size z) hd)⟩
  have at' : ∀ {b : Addr} {o : HO}, H b = some o → b ≠ a ∧ b ≠ dx := fun {b o} z => ⟨ne_of_none z na, ne_of_none z nx⟩
  have same : ∀ {b : Addr} {o : HO}, H b = some o → upd (upd H dx (.xd [(fld, v)])) a (xV a (.ref C) (some dx) true) b = some o := fun {b o} z => by
    rw [upd_ne (at' z).1, upd_ne (at' z).2]
    exact z
  refine I.un (t' := tk) { keep := fun b o z n _ _ => k b o z, slot := fun b o z n _ _ => ⟨o.slots, k b o z⟩, free := fun b o z n _ => ?_, there := fun b o z _ => ⟨o, k b o z⟩, tups := fun b xs z => same z, frzs := fun b o u z => same z, tbls := fun b ps z => ⟨#[], by rw [same z]; simp⟩ } (fun b o z => ?_)
  · rw [upd_ne (lt z).1, upd_ne (lt z).2]
    exact n
  · by_cases hb : b = a
    · subst hb
      rw [upd_same] at z
      cases z
      exact xV_ok he ⟨rfl, rfl⟩ rfl fun _ => rfl
    · rw [upd_ne hb] at z
      by_cases hb2 : b = dx
      · subst hb2
        rw [upd_same] at z
        cases z
        exact xd_ok r hn
      · rw [upd_ne hb2] at z
        exact (I.hok b o z).stay (fun c u _ y => k c u y) (fun c y => same y) (fun c xs y => same y)
/-- the same, the exception itself left out (it's about to be raised) -/
theorem x_laidR {h' : Heap} {a dx : Addr} {tk : Nat} {v : V} {u : Value} (I : Inv X pins σ H s) (k : ∀ b o, s.heap.get? b = some o → h'.get? b = some o) (ha : s.heap.objs.size ≤ a) (hd : s.heap.objs.size ≤ dx) (nd : dx ≠ a)
    (hn : h'.Ns1 dx (fun y => if y = fld then some u else none)) (r : RelV v u) :
    ∃ G : Heap, (∀ b o, G.get? b = some o → h'.get? b = some o) ∧ G.get? a = none ∧ Inv X pins σ (upd H dx (.xd [(fld, v)])) { s with heap := G, toks := tk } := by
  obtain ⟨G, g1, g2⟩ := restrict h' fun b => decide (b ≠ a)
  have gk : ∀ b, b ≠ a → G.get? b = h'.get? b := fun b hb => g1 b (decide_eq_true hb)
  have ge : G.get? a = none := g2 a (by simp)
  have nx := I.hok.fresh hd
  have lt : ∀ {b : Addr} {o : Obj}, s.heap.get? b = some o → b ≠ a ∧ b ≠ dx := fun {b o} z =>
    ⟨Nat.ne_of_lt (Nat.lt_of_lt_of_le (Heap.lt_size z) ha), Nat.ne_of_lt (Nat.lt_of_lt_of_le (Heap.lt_size z) hd)⟩
  have k' : ∀ b o, s.heap.get? b = some o → G.get? b = some o := fun b o z => (gk b (lt z).1).trans (k b o z)
  have same : ∀ {b : Addr} {o : HO}, H b = some o → upd H dx (.xd [(fld, v)]) b = some o := fun {b o} z => by
    rw [upd_ne (ne_of_none z nx)]
    exact z
  refine ⟨G, fun b o z => ?_, ge, I.un (t' := tk) { keep := fun b o z n _ _ => k' b o z, slot := fun b o z n _ _ => ⟨o.slots, k' b o z⟩, free := fun b o z n _ => ?_, there := fun b o z _ => ⟨o, k' b o z⟩, tups := fun b xs z => same z, frzs := fun b o u z => same z, tbls := fun b ps z => ⟨#[], by rw [same z]; simp⟩ } (fun b o z => ?_)⟩
  · by_cases hb : b = a
    · rw [hb, ge] at z
      cases z
    · exact (gk b hb).symm.trans z
  · rw [upd_ne (lt z).2]
    exact n
  · by_cases hb2 : b = dx
    · subst hb2
      rw [upd_same] at z
      cases z
      obtain ⟨oD, es, ep, z1, z2⟩ := hn
      exact xd_ok r ⟨oD, es, ep, (gk _ nd).trans z1, z2⟩
    · rw [upd_ne hb2] at z
      exact (I.hok b o z).stay (fun c u _ y => k' c u y) (fun c y => same y) (fun c xs y => same y)

def tNewX (fld : Str) (C : Addr) (te : TE) : TE := fun σ H Q => te σ H fun v H1 => ∀ a d, H1 a = none → H1 d = none → d ≠ a → Q (.ref a) (upd (upd H1 d (.xd [(fld, v)])) a (xV a (.ref C) (some d) true))
def tRzX (fld : Str) (C : Addr) (te : TE) : L2.St → Hp → XK → Prop := fun σ H Q => te σ H fun v H1 => ∀ d, H1 d = none → Q (.ref C) (some d) (upd H1 d (.xd [(fld, v)]))
variable {x : Str} {e : Expr} {te : TE} {p pos : Pos}
/-- C(e) as a value -/
theorem pe_newX (T : XCls X.prog X.K X.mg B newId initId bmB fld C) (hr : Room 1 X.A) (kC : keepIn X.K (.ref C) = true) (hg : Gl X x) (hm : X.mg x = some (.ref C)) (he : PE X e te)
    (hdb : (x == ("__debug__" : Str)) = false := by decide) (hs : starEach [e] X.env = (false, eval e X.env) :: starEach [] X.env := by rfl) : PE X (.Call (.Name x p) [e] [] pos) (tNewX fld C te) := by
  refine ⟨fun pins s σ H Q I h => ?_⟩
  refine wpAny_Call_Name_kw (ld_glob I hg hm ?_ hdb)
  refine callWith_K (h₀ := X.base) I.ok.mod.kin kC (spliced_more (thn (he.run pins s σ H _ I h) fun u s1 ⟨v, H1, I1, r1, q1⟩ => spliced_none ⟨I1.kIn, ?_⟩) hs) hs rfl
  refine x_new T hr I1 fun h' a t dx tk' k ha hd nd hx hn => ?_
  exact ⟨.ref a, _, x_laid I1 k ha hd nd hx hn r1, rfl, q1 a dx (I1.hok.fresh ha) (I1.hok.fresh hd) nd⟩
/-- raise C(e) -/
theorem pmk_newX (T : XCls X.prog X.K X.mg B newId initId bmB fld C) (hr : Room 1 X.A) (kC : keepIn X.K (.ref C) = true) (rC : Raises X (.ref C)) (hg : Gl X x) (hm : X.mg x = some (.ref C)) (he : PE X e te)
    (hdb : (x == ("__debug__" : Str)) = false := by decide) (hs : starEach [e] X.env = (false, eval e X.env) :: starEach [] X.env := by rfl) : PMk X (.Call (.Name x p) [e] [] pos) (tRzX fld C te) := by
  intro pins s σ H Q I h
  refine wpAny_Call_Name_kw (ld_glob I hg hm ?_ hdb)
  refine callWith_K (h₀ := X.base) I.ok.mod.kin kC (spliced_more (thn (he.run pins s σ H _ I h) fun u s1 ⟨v, H1, I1, r1, q1⟩ => spliced_none ⟨I1.kIn, ?_⟩) hs) hs rfl
  refine x_new T hr I1 fun h' a t dx tk' k ha hd nd hx hn => ?_
  obtain ⟨G, g1, g2, J⟩ := x_laidR (tk := tk') I1 k ha hd nd hn r1
  exact ⟨a, _, _, _, _, _, _, rfl, J, g1, g2, hx, ⟨rfl, rfl⟩, rfl, rfl, by rw [upd_ne (Ne.symm nd)]; exact I1.hok.fresh ha, rfl, I1.bare, rC, q1 dx (I1.hok.fresh hd)⟩
end
end Rm
namespace Rm
open PySem PySem.W PySem.Calls PyProof.Rows PySem.Spec L2
/-- what is asked of an exception's class for reading fields and isinstance -/
structure XKit (K : Frag) (C : Addr) : Prop where
  cl : (clsIn K C).isSome = true
  ga : findIn K (.ref C) "__getattribute__" = some (some (.builtin "BaseException.__getattribute__"))
  gg : findIn K (.ref C) "__getattr__" = some none
  ex : subIn K (.ref C) (.type "BaseException") = some true
  hd : hasDictIn K C = true
  ha : findIn K (.ref C) "__class__" = some (some (.builtin "object.__class__"))
  hn : specialIn K (.builtin "object.__class__") "__get__" = some (some (.builtin "getset_descriptor.__get__"))
  ht : takesIn K (.builtin "object.__class__") = some true
  hm : mroIn K C (.type "object") = some true
section
variable {X : Cx} {pins : List (Addr × Obj)} {σ : L2.St} {H : Hp} {s : Shared} {a C d : Addr} {fr : Bool} {fs : List (Str × V)}
theorem x_inst (I : Inv X pins σ H s) (ha : H a = some (xV a (.ref C) (some d) fr)) (hd : H d = some (.xd fs)) :
    ∃ (ox od : Obj), InstAt s.heap a ox C (some od) ∧ ∀ name, ∃ o, lookIn name od = some o ∧ RelO (fs.lookup name) o := by
  obtain ⟨o, vs, e, z, dd, _⟩ := xV_at I.hok ha
  have hx : ObjOk X.prog X.w H s.heap d (.xd fs) := I.hok d _ hd
  obtain ⟨mA, hns, hr⟩ := hx
  obtain ⟨od, ho, hl⟩ := lookIn_ns hns
  exact ⟨o, od, ⟨e, z.1, by unfold notCls; rw [dd], by rw [z.2]; exact ho⟩, fun name => ⟨_, hl name, hr name⟩⟩
/-- e.f where e is an exception -/
def tXat (K : Frag) (f : Str) (te : TE) : TE := fun σ H Q => te σ H fun x H1 => ∃ (a C d : Addr) (fr : Bool) (fs : List (Str × V)) (v : V), x = .ref a ∧ H1 a = some (xV a (.ref C) (some d) fr) ∧ H1 d = some (.xd fs) ∧ XKit K C ∧ findIn K (.ref C) f = some none ∧ fs.lookup f = some v ∧ Q v H1
theorem pe_xat {e : Expr} {te : TE} {pos : Pos} {n : Str} (he : PE X e te) (hb : attributeBase e n X.env (eval e X.env) = eval e X.env := by rfl) : PE X (.Attribute e n pos) (tXat X.K n te) := by
  refine ⟨fun pins s σ H Q I h => ?_⟩
  refine attr_of hb (thn (he.run pins s σ H _ I h) fun u s1 ⟨x, H1, I1, rx, a, C, d, fr, fs, v, ex, ha, hd, T, hno, l, q⟩ => ?_)
  subst ex
  obtain rfl : u = Value.ref a := rx
  obtain ⟨ox, od, J, hl⟩ := x_inst I1 ha hd
  obtain ⟨o, h1, h2⟩ := hl n
  rw [l] at h2
  obtain ⟨u, rfl, ru⟩ := RelO.some_of h2
  exact HandSPX.exc_get I1.kIn J T.ga T.gg T.ex (findObj_own T.hd hno rfl h1) (handed_of ru) ⟨v, H1, I1.tok _, ru, q⟩
/-- isinstance(e, C) where e is an exception -/
def rIsX (K : Frag) : List V → Hp → VK → Prop := fun xs H Q => ∃ (a C d : Addr) (fr : Bool) (fs : List (Str × V)) (c : V) (u : Value) (b : Bool), xs = [.ref a, c] ∧ ClsV c u ∧ H a = some (xV a (.ref C) (some d) fr) ∧ H d = some (.xd fs) ∧ XKit K C ∧ kitOne K (.ref C) u = some b ∧ Q (.bl b) H
theorem call_isX : CallR X (.builtin "isinstance") (rIsX X.K) := fun pins s σ H xs us Q I r ⟨a, C, d, fr, fs, c, u, b, ex, hc, ha, hd, T, hk, q⟩ => by
  subst ex
  obtain ⟨u1, u2, rfl, r1, r2⟩ := vals2 r
  obtain rfl : u1 = Value.ref a := r1
  obtain rfl := ClsV.eq hc r2
  obtain ⟨ox, od, J, hl⟩ := x_inst I ha hd
  exact kia_one (kitx_exc T.cl T.ga T.gg T.ex T.ha T.hn T.ht T.hm) I.kIn J hk (by intro z; cases z) fun tk => ⟨.bl b, _, I.tok _, rfl, q⟩
end
end Rm
namespace Rm
open PySem PySem.W PySem.Calls PyProof.Rows PySem.Spec L2
theorem traced_keeps {h h' base : Heap} {e : Addr} {Z : Obj → Prop} {fl : Value} (x : HandSPX.TracedZ h base e Z fl) (k : ∀ b o, h.get? b = some o → h'.get? b = some o) : HandSPX.TracedZ h' base e Z fl := by
  obtain ⟨oe, vs, T, oT, ts, a1, a2, a3, a4, a5, a6, a7, a8, a9⟩ := x
  exact ⟨oe, vs, T, oT, ts, k _ _ a1, a2, a3, a4, a5, a6, k _ _ a7, a8, a9⟩
theorem flying_keeps {h h' base : Heap} {l : List Env} {e : Addr} {Z : Obj → Prop} (x : HandSPX.FlyingZ base l e Z h) (k : ∀ b o, h.get? b = some o → h'.get? b = some o) : HandSPX.FlyingZ base l e Z h' := by
  obtain ⟨a1, a2, a3, a4⟩ := x
  exact ⟨fun b o z => k b o (a1 b o z), a2, Heap.FunFrames.of_keeps (fun b o z _ => ⟨o, k b o z, rfl⟩) a3, traced_keeps a4 k⟩
section
variable {X : Cx} {pins : List (Addr × Obj)} {σ : L2.St} {H : Hp} {s : Shared}
/-- a pinned record is tracked from now on -/
theorem Inv_retrack {a : Addr} {oe : Obj} {vs : Array Value} {cls : Value} {d : Option Addr} (I : Inv X ((a, oe) :: pins) σ H s) (hz : Zc cls d oe) (hd : oe.data = .fields vs) (h0 : X.s_0.heap.get? a = none) (hp : ∀ p ∈ X.pn ++ pins, p.1 ≠ a) :
    Inv X pins σ (upd H a (xV a cls d false)) s := by
  obtain ⟨ea, na, nL, nF, _⟩ := I.pin (a, oe) (List.mem_append_right _ List.mem_cons_self)
  have na : H a = none := na
  have at' : ∀ {b : Addr} {o : HO}, H b = some o → b ≠ a := fun {b o} z => ne_of_none z na
  have same : ∀ {b : Addr} {o : HO}, H b = some o → upd H a (xV a cls d false) b = some o := fun {b o} z => by
    rw [upd_ne (at' z)]
    exact z
  have n0 : ∀ {b : Addr} {o : Obj}, X.s_0.heap.get? b = some o → b ≠ a := fun {b o} z y => by
    rw [y, h0] at z
    cases z
  refine ⟨I.ok, I.os, I.bare, ⟨fun b o e n hb hx => I.base.keep b o e n hb hx, fun b o e n hb hx => I.base.slot b o e n hb hx, fun b o e n hx => ?_, fun b o e hx => I.base.there b o e hx, fun b xs e => same (I.base.tups b xs e), fun b o u e => same (I.base.frzs b o u e), fun b ps e => ?_⟩,
    I.loc, I.cell, ?_, fun x c e => ?_, fun p hq => ?_, fun b o z => ?_, I.len⟩
  · rw [upd_ne (n0 e)]
    exact I.base.free b o e n hx
  · obtain ⟨m, y⟩ := I.base.tbls b ps e
    exact ⟨m, same y⟩
  · rw [upd_ne (Ne.symm nL)]
    exact I.free
  · have hc : c ≠ a := fun y => by
      obtain ⟨v, o, z1, z2⟩ := I.cell x c e
      have ea' : s.heap.get? a = some oe := ea
      rw [y, ea'] at z1
      cases z1
      rw [hd] at z2
      cases z2
    rw [upd_ne hc]
    exact I.freeC x c e
  · obtain ⟨y1, y2, y3⟩ := I.pin p (by
      rcases List.mem_append.mp hq with q | q
      · exact List.mem_append_left _ q
      · exact List.mem_append_right _ (List.mem_cons_of_mem _ q))
    exact ⟨y1, by rw [upd_ne (hp p hq)]; exact y2, y3⟩
  · by_cases hb : b = a
    · subst hb
      rw [upd_same] at z
      cases z
      exact xV_ok ea hz hd fun q => by cases q
    · rw [upd_ne hb] at z
      exact (I.hok b o z).stay (fun c u _ y => y) (fun c y => same y) (fun c xs y => same y)

/-- what 'except (A, B, C) as e: caught = e' wishes of an exception of the body: e in slot i, caught in slot j -/
def wCaught (K : Frag) (cs : List Value) (i j : Nat) (Wout : WX) (D : Ends) : WX := fun cls d σ H =>
  ∃ b, exmAny K cls cs = some b ∧ (b = true → ∀ a, H a = none → D.nx (((σ.set i (some (.ref a))).set j (some (.ref a))).set i none) (upd H a (xV a cls d false))) ∧ (b = false → Wout cls d σ H)

theorem names_load {x : Str} {c : Value} {np : Pos} {A : Around} {Q : Value → Shared → Prop} {E : Value → Shared → Prop} (I : Inv X pins σ H s) (hA : X.A = A) (hc : Names X x c) (q : Q c s) : wpAny (model X.prog X.w) A (eval (.Name x np) X.env) Q E s := by
  subst hA
  obtain ⟨hg, hdbg, hm | ⟨hm, hv, hnn⟩⟩ := hc
  · exact ld_glob I hg hm q hdbg
  · exact ld_blt I hg hm hv q hnn hdbg

variable {x1 x2 x3 n m : Str} {c1 c2 c3 : Value} {i j : Nat} {body : List Stmt} {np1 np2 np3 tp0 pos pos' p1 p2 p3 : Pos} {tk : Nat} {tb : WX → TS} {Wout : WX}
theorem ps_try_caught (hs : X.stack = X.env :: X.outer) (hf : X.env.frame = some X.env.locals) (hN : X.N.Nodup) (hi : X.N[i]? = some n) (hln : X.env.kindOf n = some .local) (hj : X.N[j]? = some m) (hlm : X.env.kindOf m = some .local)
    (h1 : Names X x1 c1) (h2 : Names X x2 c2) (h3 : Names X x3 c3) (tko : Takes X Wout)
    (hb : ∀ (W : WX) (pn : List (Addr × Obj)) (xe : Value → Shared → Prop), Takes (X.tr pn xe) W → PassesOwn (model X.prog X.w) X.A X.env xe → PSs (X.tr pn xe) body (tb W))
    (hex : X.ex = [] := by rfl) (hd1 : (n == ("__debug__" : Str)) = false := by decide) (hd2 : (n == ("__classdict__" : Str)) = false := by decide) :
    PS X (.Try body [.ExceptHandler (some (.Tuple [.Name x1 np1, .Name x2 np2, .Name x3 np3] tk tp0)) (some n) [.Assign [.Name m p1] (.Name n p2) p3] pos'] [] [] pos)
      (fun D σ H => tb (wCaught X.K [c1, c2, c3] i j Wout D) D σ H) := by
  refine ⟨fun pins s σ H D I h => ?_⟩
  have ok := I.ok
  have hfr : X.A.frames = some (X.env :: X.outer) := by rw [ok.frames, hs]
  refine wpAny_Try_except ?_
  refine wpAny_mono ((hb (wCaught X.K [c1, c2, c3] i j Wout D) (X.pn ++ pins) (fun e s1 => wpAny (model X.prog X.w) X.A (noteFrame e X.env) (fun _ s2 => wpAny (model X.prog X.w) X.A (setFlight e none) (fun _ s3 =>
    wpAny (model X.prog X.w) X.A (handleBy e X.env [.ExceptHandler (some (.Tuple [.Name x1 np1, .Name x2 np2, .Name x3 np3] tk tp0)) (some n) [.Assign [.Name m p1] (.Name n p2) p3] pos']) (SP X pins D) X.xe s3) X.xe s2) X.xe s1) (fun u s' xx => ?_) PassesOwn.looking).run [] s σ H D (I.toTry _) h) (fun f s1 hsp => ?_) (fun e s1 he => he)
  · obtain ⟨a, G, sI, pins', σ', H', cls, d, rfl, J', nb, up, sky, na, os, ag, b, hb1, hyes, hno⟩ := xx
    have J : Inv X pins σ' H' sI := J'.ofTry ok
    have sky' : Sky G (X.env :: X.outer) a (Zc cls d) X.env.locals s'.heap := by rw [← hs]; exact sky
    show wpAny (model X.prog X.w) X.A (noteFrame (.ref a) X.env) _ _ _
    refine Sky.land Zc.steady hfr hf sky' fun g3 fl3 up3 => ?_
    have J3 : Inv X pins σ' H' { s' with heap := g3 } := J.landed nb fl3.1 (up.trans up3) os ag
    obtain ⟨oe3, vs3, he3, hz3, hd3⟩ := fl3.there
    have nfr : a ∉ frs (X.env :: X.outer) := fun hm => by
      obtain ⟨_, o', e', hnf⟩ := fl3.2.2.1.mem hm
      rw [he3] at e'
      cases e'
      exact hnf _ hd3
    have nL : a ≠ X.env.locals := fun z => nfr (List.mem_filterMap.mpr ⟨X.env, List.mem_cons_self, by rw [hf, z]⟩)
    have nF : a ∉ X.fs := fun hm => by
      obtain ⟨e, he, q⟩ := List.mem_filterMap.mp hm
      exact nfr (List.mem_filterMap.mpr ⟨e, List.mem_cons_of_mem _ he, q⟩)
    -- it stood neither at the start of the def nor among what is pinned
    have gnone : G.get? a = none := fl3.2.1
    have stk : ∀ b ∈ frs X.stack, b ≠ a := fun b hb y => nfr (by rw [hs] at hb; rw [← y]; exact hb)
    have hp : ∀ p ∈ X.pn ++ pins, p.1 ≠ a := fun p hp y => by
      obtain ⟨z1, _, z3, z4, _⟩ := J.pin p hp
      have z5 : p.1 ∉ frs X.stack := fun hm => by
        rcases List.mem_cons.mp (J.stkSub _ hm) with q | q
        · exact z3 q
        · exact z4 q
      have := nb _ _ z1 z5
      rw [y, gnone] at this
      cases this
    have h0 : X.s_0.heap.get? a = none := by
      cases z : X.s_0.heap.get? a with
      | none => rfl
      | some o =>
        exfalso
        obtain ⟨o', z'⟩ := J.base.there a o z (by rw [hex]; simp)
        have := nb a o' z' (fun hm => stk a hm rfl)
        rw [gnone] at this
        cases this
    have S3 := J3.suite he3 hd3 na nL nF
    refine wpAny_handleBy_cons (codeAny_handlers_test ?_) (by intro q; cases q)
    have LT : ∀ {h : Heap}, (∀ b o, g3.get? b = some o → h.get? b = some o) → Looks (model X.prog X.w) h (typeOf (.ref a)) cls := fun {h} kk A Q E s k q => wpAny_typeOf_ref (k _ _ (kk _ _ he3)) (by rw [hz3.1]; exact q)
    refine wpAny_Tuple_spliced ?_
    have ld : ∀ {x : Str} {c : Value} {np : Pos} {Q : Value → Shared → Prop} {E : Value → Shared → Prop}, Names X x c → Q c { s' with heap := g3 } → wpAny (model X.prog X.w) (X.A.mark (some (.ref a))) (eval (.Name x np) X.env) Q E { s' with heap := g3 } :=
      fun {x c np Q E} hc q => names_load (X := X.suite a ((a, oe3) :: (X.pn ++ pins))) S3 rfl hc q
    refine spliced_more (ld h1 (spliced_more (ld h2 (spliced_more (ld h3 (spliced_none ⟨by rw [sizeLine_eq]; show 3 ≤ 16777216; decide, ?_⟩)))))) 
    obtain ⟨g4, hg4⟩ : ∃ g4, g4 = g3.push { cls := .type "tuple", data := .seq [c1, c2, c3].toArray } := ⟨_, rfl⟩
    have k4 : ∀ b o, g3.get? b = some o → g4.get? b = some o := fun b o z => by rw [hg4]; exact Heap.get?_push_of_some _ z
    have htp : g4.get? g3.objs.size = some { cls := .type "tuple", data := .seq [c1, c2, c3].toArray } := by rw [hg4]; exact Heap.get?_push_size _ rfl
    have J4 : Inv X pins σ' H' { s' with heap := g4 } := J3.kept (t' := s'.toks) k4
    have fl4 := flying_keeps fl3 k4
    rw [← hg4]
    have LM := exm_tup3 (M := model X.prog X.w) J4.kIn (LT k4) htp hb1
    refine LM.here ?_
    cases b with
    | true =>
      refine codeAny_handlers_suite_as ?_
      refine HandSPX.lands_againZ fl4 fun g5 fl5 up5 => ?_
      have u35 : g3.UpToSlots g5 := fun b o z hd => up5 b o (k4 b o z) hd
      have J5 : Inv X pins σ' H' { s' with heap := g5 } := J.landed nb fl5.1 ((up.trans up3).trans u35) os ag
      obtain ⟨oe5, vs5, he5, hz5, hd5⟩ := fl5.there
      have S5 := J5.suite he5 hd5 na nL nF
      refine store_ok (X := X.suite a ((a, oe5) :: (X.pn ++ pins))) (v := .ref a) S5 hN hi (.inl hln) rfl (fun s6 S6 => ?_) (.inr hln)
      have hlen : i < σ'.length := by
        have := J5.len
        rw [this]
        exact (List.getElem?_eq_some_iff.mp hi).1
      have B : PSs (X.suite a ((a, oe5) :: (X.pn ++ pins))) [.Assign [.Name m p1] (.Name n p2) p3] (tAsg (tVar i) (gName j)) :=
        pss_one (ps_set hN hj (.inl hlm) (pe_var hi (.inl hln) hd1 hd2) rfl (.inr hlm))
      refine wpAny_mono (B.run [] s6 _ H' { nx := fun σ7 H7 => σ7 = ((σ'.set i (some (.ref a))).set j (some (.ref a))) ∧ H7 = H', rt := fun _ _ => False } S6 ⟨.ref a, by simp [hlen], rfl, rfl⟩) (fun f s7 hsp => ?_) (fun _ _ z => False.elim z)
      cases f with
      | next =>
        obtain ⟨σ7, H7, S7, rfl, rfl⟩ := hsp
        have U : Inv X ((a, oe5) :: pins) ((σ'.set i (some (.ref a))).set j (some (.ref a))) H7 s7 :=
          ⟨ok, S7.os, S7.bare, S7.base, S7.loc, S7.cell, S7.free, S7.freeC, fun p hq => S7.pin p (by
            rw [List.append_nil]
            rcases List.mem_append.mp hq with q | q
            · exact List.mem_cons_of_mem _ (List.mem_append_left _ q)
            · rcases List.mem_cons.mp q with q | q
              · exact q ▸ List.mem_cons_self
              · exact List.mem_cons_of_mem _ (List.mem_append_right _ q)), S7.hok, S7.len⟩
        exact gone_ok U hN hi hln fun s8 J8 => ⟨_, _, Inv_retrack J8 hz5 hd5 h0 hp, hyes rfl a na⟩
      | brk =>
        obtain ⟨_, _, _, q⟩ := hsp
        exact False.elim q
      | cont =>
        obtain ⟨_, _, _, q⟩ := hsp
        exact False.elim q
      | ret u =>
        obtain ⟨_, _, _, _, _, q⟩ := hsp
        exact False.elim q
    | false =>
      show wpAny _ X.A (handleBy (.ref a) X.env []) _ _ _
      refine wpAny_handleBy_nil ?_
      obtain ⟨_, _, _, oe, vs, T, oT, ts', he, hz, hd, h1', hr⟩ := id fl4
      unfold PySem.passOn
      refine wpAny_bind (wpAny_field he hd h1' ?_)
      rw [if_neg (show ¬ ((Value.ref T == Value.none) = true) from by simp)]
      have u34 : g3.UpToSlots g4 := Heap.UpToSlots.of_keeps k4
      have fin : wpAny (model X.prog X.w) X.A (setFlight (.ref a) X.env.frame) (fun _ s4 => wpAny (model X.prog X.w) X.A (throw (.ref a) : Sem Flow) (SP X pins D) X.xe s4) X.xe { s' with heap := g4 } := by
        rw [hf]
        refine HandSPX.setFlight_upZ fl4 fun g5 hh5 up5 => wpAny_throw (tko _ _ ?_)
        exact ⟨a, G, sI, pins, σ', H', cls, d, rfl, J, nb, ((up.trans up3).trans u34).trans up5, .inr (.inr (by rw [hs]; exact hh5)), na, os, ag, hno rfl⟩
      first
        | exact wpAny_bind (wpAny_pure (wpAny_bind fin))
        | exact wpAny_bind fin
  · cases f with
    | next =>
      obtain ⟨σ', H', J', q⟩ := hsp
      exact wpAny_execs_nil ⟨σ', H', J'.ofTry ok, q⟩
    | brk =>
      obtain ⟨σ', H', J', q⟩ := hsp
      exact ⟨σ', H', J'.ofTry ok, q⟩
    | cont =>
      obtain ⟨σ', H', J', q⟩ := hsp
      exact ⟨σ', H', J'.ofTry ok, q⟩
    | ret u =>
      obtain ⟨v, σ', H', J', r, q⟩ := hsp
      exact ⟨v, σ', H', J'.ofTry ok, r, q⟩
end
end Rm
/-! Defs that may raise and may show data: what is around a call shows nothing yet (guards). -/
namespace Rm
open PySem PySem.W PySem.Calls PyProof.Rows PySem.Spec L2
/-- a def's body keeps spB, whatever way its parameters were bound -/
def FnB (P : Program) (w : World) (K : Frag) (mg : Str → Option Value) (base : Heap) (k : Nat) (f : Addr) (fd : FuncData) (ps : List Str) (spB : Sp) : Prop :=
  ∀ (A : Around) (outer : List Env) (s : Shared) (H : Hp) (args : Args) (Q : VK) (E : XK) (G : List V → Hp → Prop), Room k A → A.guards = some [] → Env0 P w K mg base A outer s H →
    StX.Bnd (L2.CX P w) P w K mg base fd args ps A outer s H E G → (∀ vs H2, G vs H2 → spB vs H2 Q E) → codeAny (model P w) A (.call (.ref f) args) (CR (L2.CX P w) outer P w H s Q E) s
/-- f called with positional arguments and then the keywords ks -/
def CallG (P : Program) (w : World) (K : Frag) (mg : Str → Option Value) (base : Heap) (k : Nat) (f : Addr) (ks : List Str) (sp : Sp) : Prop :=
  ∀ (A : Around) (outer : List Env) (s : Shared) (H : Hp) (us ws : List Value) (vs zs : List V) (Q : VK) (E : XK), Room k A → A.guards = some [] → Env0 P w K mg base A outer s H → Vals vs us → Vals zs ws →
    ws.length = ks.length → sp (vs ++ zs) H Q E → codeAny (model P w) A (.call (.ref f) ⟨us, ks.zip ws⟩) (CR (L2.CX P w) outer P w H s Q E) s
section
variable {P : Program} {w : World} {K : Frag} {mg : Str → Option Value} {base : Heap} {k n : Nat} {f : Addr} {fd : FuncData} {ps ks : List Str} {spB sp : Sp}
theorem FnB.mono {j : Nat} (F : FnB P w K mg base j f fd ps spB) (h : j ≤ k) : FnB P w K mg base k f fd ps spB := fun A o s H a Q E G r g e b q => F A o s H a Q E G (r.mono h) g e b q
theorem CallG.mono {j : Nat} (F : CallG P w K mg base j f ks sp) (h : j ≤ k) : CallG P w K mg base k f ks sp := fun A o s H us ws vs zs Q E r g e a b c d => F A o s H us ws vs zs Q E (r.mono h) g e a b c d
/-- bound without anything made: parameters in the order ps -/
theorem FnB.call (F : FnB P w K mg base k f fd ps spB) (gV : List V → List V) (g : List Value → List Value)
    (hg : ∀ (vs : List V) (us : List Value), Vals vs us → Vals (gV vs) (g us)) (hl : ∀ vs H Q E, spB vs H Q E → vs.length = ps.length)
    (hb : ∀ (s : Shared) (us ws : List Value), K.In s.heap → ws.length = ks.length → (g (us ++ ws)).length = ps.length → BindsTo s fd ⟨us, ks.zip ws⟩ (ps.zip (g (us ++ ws)))) :
    CallG P w K mg base k f ks (fun vs H Q E => spB (gV vs) H Q E) := fun A outer s H us ws vs zs Q E hr hgd e0 r1 r2 hw hsp => by
  have r := hg _ _ (r1.append r2)
  have len := hl _ _ _ _ hsp
  refine F A outer s H _ Q E (fun vs' H2 => vs' = gV (vs ++ zs) ∧ H2 = H) hr hgd e0 (fun A' Ex Q' h => ?_) fun vs' H2 z => by
    obtain ⟨rfl, rfl⟩ := z
    exact hsp
  refine hb s us ws (e0.mod.kin.keeps fun b o e => (e0.bs b o e).1) hw (by rw [← r.length]; exact len) _ _ _ _ ?_
  exact h s H _ _ e0 Un.refl rfl (fun _ _ z => z) r len ⟨rfl, rfl⟩
/-- plain positional -/
theorem FnB.pos (F : FnB P w K mg base k f fd ps spB) (hl : ∀ vs H Q E, spB vs H Q E → vs.length = ps.length) (hb : Binds K fd ps []) : CallG P w K mg base k f [] spB :=
  F.call (ks := []) (fun vs => vs) (fun us => us) (fun _ _ r => r) hl (fun s us ws hk hw hl => by
    cases ws with
    | nil =>
      have := hb s us hk (by simpa using hl)
      simpa using this
    | cons _ _ => cases hw)
theorem FnB.posD (F : FnB P w K mg base k f fd ps spB) (hl : ∀ vs H Q E, spB vs H Q E → vs.length = ps.length) {ds : List Value} {dvs : List V} (hd : Vals dvs ds) (hb : Binds K fd ps ds) : CallG P w K mg base k f [] (fun vs H Q E => spB (vs ++ dvs) H Q E) :=
  F.call (ks := []) (fun vs => vs ++ dvs) (fun us => us ++ ds) (fun _ _ r => r.append hd) hl (fun s us ws hk hw hl => by
    cases ws with
    | nil =>
      have := hb s us hk (by simpa using hl)
      simpa using this
    | cons _ _ => cases hw)
/-- def f(*xs) -/
theorem FnB.star {pv : Str} (F : FnB P w K mg base k f fd [pv] spB) (hb : ∀ rest : List Value, bindArgs fd ⟨rest, []⟩ = (newTuple rest >>= fun t => pure [(pv, t)])) :
    CallG P w K mg base k f [] (fun vs H Q E => vs.length ≤ sizeLine ∧ ∀ p, H p = none → spB [.ref p] (upd H p (.tup vs)) Q E) := fun A outer s H us ws vs zs Q E hr hgd e0 r1 r2 hw hsp => by
  cases ws with
  | cons _ _ => cases hw
  | nil =>
    cases r2
    rw [List.append_nil] at hsp
    obtain ⟨hz, hsp⟩ := hsp
    have hn : H s.heap.objs.size = none := e0.hok.fresh (Nat.le_refl _)
    have hl : us.length ≤ sizeLine := by rw [← r1.length]; exact hz
    refine F A outer s H _ Q E (fun vs' H2 => ∃ p, H p = none ∧ vs' = [.ref p] ∧ H2 = upd H p (.tup vs)) hr hgd e0 (fun A' Ex Q' h => ?_) fun vs' H2 z => by
      obtain ⟨p, hp, rfl, rfl⟩ := z
      exact hsp p hp
    show wpAny _ _ (bindArgs fd ⟨us, []⟩) _ _ _
    rw [hb]
    have new : ObjOk P w (upd H s.heap.objs.size (.tup vs)) (s.heap.push ({ cls := .type "tuple", data := .seq us.toArray } : Obj)) s.heap.objs.size (.tup vs) := ⟨hz, us, r1, ⟨_, Heap.get?_push_size _ rfl, rfl, _, rfl⟩⟩
    refine wpAny_bind (wpAny_newTuple (wpAny_pure ?_) hl)
    exact h _ _ [.ref s.heap.objs.size] [.ref s.heap.objs.size] (StX.env0_laid e0 new) (StX.un_laid hn) rfl (fun e s' z => StX.cxUp outer s H { s with heap := s.heap.push ({ cls := .type "tuple", data := .seq us.toArray } : Obj) } (upd H s.heap.objs.size (.tup vs)) E e s' (StX.un_laid hn) (fun b o q => Heap.get?_push_of_some _ q) rfl z) (.cons rfl .nil) rfl ⟨_, hn, rfl, rfl⟩
/-- from a body to the def -/
theorem fnB_of {name qual : Str} {params : Arguments} {body : List Stmt} {scope : Scope} {dV kV doc pm cdv ct oc : Value} {an od : Option Addr} {osl : Array (Option Value)} {N : List Str}
    (lk : K.lookup f = some ⟨oc, od, .func (fnOf name qual params body scope dV kV doc pm an cdv ct), osl⟩) (hcd : codeIn K cdv qual = true) (S : FnScope N ps scope)
    (hbody : ∀ (A : Around) (outer : List Env) (s : Shared) (H : Hp) (vs : List V) (Q : VK) (E : XK), Room k (A.deeper (envOfC qual scope s.heap.objs.size f cdv)) → A.guards = some [] → spB vs H Q E →
      ∃ t, PSs (cxOf (L2.CX P w) P w K mg base N qual scope f cdv A outer s H E) body t ∧ t { nx := fun _ H' => Q .non H', rt := Q } (start N vs) H) :
    FnB P w K mg base (k + 1) f (fnOf name qual params body scope dV kV doc pm an cdv ct) ps spB := fun A outer s H args Q E G hr hg e0 hb hsp =>
  StX.run_bnd lk hcd S hr e0 hb fun s2 H2 vs g hr' => hbody A outer s2 H2 vs Q E hr' hg (hsp vs H2 g)
/-- the same, of a def of the text -/
theorem Fun_okB {x qual : Str} {st : Stmt} {N : List Str} (F : Fun K x qual st f fd) (S : FnScope N ps (defScope st))
    (hbody : ∀ (cdv : Value) (A : Around) (outer : List Env) (s : Shared) (H : Hp) (vs : List V) (Q : VK) (E : XK), Room k (A.deeper (envOfC qual (defScope st) s.heap.objs.size f cdv)) → A.guards = some [] → spB vs H Q E →
      ∃ t, PSs (cxOf (L2.CX P w) P w K mg base N qual (defScope st) f cdv A outer s H E) (defBody st) t ∧ t { nx := fun _ H' => Q .non H', rt := Q } (start N vs) H) : FnB P w K mg base (k + 1) f fd ps spB := by
  obtain ⟨oc, od, kV, doc, pm, an, cdv, ct, osl, rfl, lk, hcd⟩ := F.ex
  exact fnB_of lk hcd S fun A outer s H vs Q E hr hg hsp => hbody cdv A outer s H vs Q E hr hg hsp
end
section
variable {X : Cx} {k : Nat} {f : Addr} {ks : List Str} {sp : Sp} {W : WX} {x : Str} {p pos : Pos} {e : Expr} {es : List Expr} {kws : List Keyword} {t tk : TA}
theorem run_callG {pins : List (Addr × Obj)} {σ : L2.St} {H : Hp} {s : Shared} {Q : VK} {us ws : List Value} {vs zs : List V} (F : CallG X.prog X.w X.K X.mg X.base k f ks sp) (hr : Room k X.A) (hg : X.A.guards = some []) (tko : Takes X W) (I : Inv X pins σ H s)
    (r : Vals vs us) (rz : Vals zs ws) (hl : ws.length = ks.length) (h : sp (vs ++ zs) H Q (WE W σ)) : wpAny (model X.prog X.w) X.A (call (.ref f) us (ks.zip ws)) (EP X pins σ Q) X.xe s := by
  refine wpAny_call (codeAny_mono (F X.A X.stack s H us ws vs zs Q (WE W σ) hr hg I.env0 r rz hl h) fun r s' hq => ?_)
  cases r with
  | error e => exact passAt tko σ pins H s e s' I hq
  | ok fl =>
    cases fl with
    | ret u => exact I.after hq
    | next => exact False.elim hq
    | brk => exact False.elim hq
    | cont => exact False.elim hq
def tCallG (sp : Sp) (W : WX) (t : TA) : TE := fun σ H Q => t σ H fun vs H1 => sp vs H1 Q (WE W σ)
def tCallGK (sp : Sp) (W : WX) (t tk : TA) : TE := fun σ H Q => t σ H fun vs H1 => tk σ H1 fun zs H2 => sp (vs ++ zs) H2 Q (WE W σ)
/-- f(e, ..) -/
theorem pe_callG (F : CallG X.prog X.w X.K X.mg X.base k f [] sp) (hr : Room k X.A) (hgd : X.A.guards = some []) (tko : Takes X W) (hg : Gl X x) (hm : X.mg x = some (.ref f)) (hk : keepIn X.K (.ref f) = true) (ha : PA X (e :: es) t)
    (hdb : (x == ("__debug__" : Str)) = false := by decide) (he : starEach (e :: es) X.env = (false, eval e X.env) :: starEach es X.env := by rfl) (hpl : (backTo pos (starEach es X.env)).any (·.1) = false := by rfl) :
    PE X (.Call (.Name x p) (e :: es) [] pos) (tCallG sp W t) := by
  refine ⟨fun pins s σ H Q I h => wpAny_Call_Name_kw (ld_glob I hg hm ?_ hdb)⟩
  refine callWith_K (h₀ := X.base) I.ok.mod.kin hk (thn (ha.run pos pins s σ H _ I h) fun us s1 ⟨vs, H1, I1, r, q⟩ => ⟨I1.kIn, ?_⟩) he hpl
  exact run_callG (ws := []) (zs := []) F hr hgd tko I1 r .nil rfl (by rw [List.append_nil]; exact q)
/-- f() -/
theorem pe_callG0 (F : CallG X.prog X.w X.K X.mg X.base k f [] sp) (hr : Room k X.A) (hgd : X.A.guards = some []) (tko : Takes X W) (hg : Gl X x) (hm : X.mg x = some (.ref f)) (hk : keepIn X.K (.ref f) = true)
    (hdb : (x == ("__debug__" : Str)) = false := by decide) : PE X (.Call (.Name x p) [] [] pos) (tCallG sp W tNil) := by
  refine ⟨fun pins s σ H Q I h => wpAny_Call_Name_kw (ld_glob I hg hm ?_ hdb)⟩
  refine callWith_K0 I.kIn hk ?_
  exact run_callG (ws := []) (zs := []) F hr hgd tko I .nil .nil rfl h
/-- f(e, .., k=v, ..) -/
theorem pe_callGK (F : CallG X.prog X.w X.K X.mg X.base k f ks sp) (hr : Room k X.A) (hgd : X.A.guards = some []) (tko : Takes X W) (hg : Gl X x) (hm : X.mg x = some (.ref f)) (hk : keepIn X.K (.ref f) = true) (ha : PA X (e :: es) t) (hkw : PK X kws tk)
    (hall : (backToKw pos (keywordEach kws X.env)).all (·.1.isSome) = true := by rfl) (hks : (backToKw pos (keywordEach kws X.env)).filterMap (·.1) = ks := by rfl)
    (hdb : (x == ("__debug__" : Str)) = false := by decide) (he : starEach (e :: es) X.env = (false, eval e X.env) :: starEach es X.env := by rfl)
    (hpl : ((backTo pos (starEach (e :: es) X.env)).any (·.1) || (backToKw pos (keywordEach kws X.env)).any (·.1.isNone)) = false := by rfl) :
    PE X (.Call (.Name x p) (e :: es) kws pos) (fun σ H Q => t σ H fun vs H1 => tk σ H1 fun zs H2 => zs.length = ks.length ∧ sp (vs ++ zs) H2 Q (WE W σ)) := by
  refine ⟨fun pins s σ H Q I h => wpAny_Call_Name_kw (ld_glob I hg hm ?_ hdb)⟩
  refine callWith_KW (h₀ := X.base) I.ok.mod.kin hk hall (thn (ha.run pos pins s σ H _ I h) fun us s1 ⟨vs, H1, I1, r, q⟩ => ?_) hpl he
  refine thn (hkw.run pos pins s1 σ H1 _ I1 q) fun ws s2 ⟨zs, H2, I2, rz, hl, q2⟩ => ⟨I2.kIn, ?_⟩
  rw [hks]
  exact run_callG F hr hgd tko I2 r rz (by rw [← rz.length]; exact hl) q2
/-- f(k=v, ..) -/
theorem pe_callGK0 (F : CallG X.prog X.w X.K X.mg X.base k f ks sp) (hr : Room k X.A) (hgd : X.A.guards = some []) (tko : Takes X W) (hg : Gl X x) (hm : X.mg x = some (.ref f)) (hk : keepIn X.K (.ref f) = true) (hkw : PK X kws tk)
    (hall : (backToKw pos (keywordEach kws X.env)).all (·.1.isSome) = true := by rfl) (hks : (backToKw pos (keywordEach kws X.env)).filterMap (·.1) = ks := by rfl)
    (hdb : (x == ("__debug__" : Str)) = false := by decide)
    (hpl : ((backToKw pos (keywordEach kws X.env)).any (·.1.isNone)) = false := by rfl) :
    PE X (.Call (.Name x p) [] kws pos) (fun σ H Q => tk σ H fun zs H2 => zs.length = ks.length ∧ sp zs H2 Q (WE W σ)) := by
  refine ⟨fun pins s σ H Q I h => wpAny_Call_Name_kw (ld_glob I hg hm ?_ hdb)⟩
  show wpAny _ _ (callWith pos (.ref f) [] [] (backToKw pos (keywordEach kws X.env))) _ _ _
  refine callWith_of (P := Frag.In X.K) (by show (false || _) = false; rw [hpl]; rfl) (keeps_K hk) (evalArgs_kw_nil hall ?_)
  refine thn (hkw.run pos pins s σ H _ I h) fun ws s2 ⟨zs, H2, I2, rz, hl, q2⟩ => ⟨I2.kIn, ?_⟩
  rw [hks]
  exact run_callG (us := []) (vs := []) F hr hgd tko I2 .nil rz (by rw [← rz.length]; exact hl) q2
end
end Rm
namespace Rm
open PySem PySem.W PySem.Calls PyProof.Rows PySem.Spec L2
/-- the law's own call: from its promise to what the statement wants -/
theorem lawG {P : Program} {w : World} {K : Frag} {mg mb : Str → Option Value} {k : Nat} {fa a : Addr} {sp : Sp} {s₁ : Shared} {vs : List Value} {ns : List Int}
    (KX : K.In s₁.heap) (hns : s₁.heap.Ns mainGlobals mg) (hb : s₁.heap.Ns builtinsNs mb) (hbb : ∀ x : Str, x ≠ "__name__" → mb x = bootBuiltins x) (hlim : s₁.heap.NoLimit) (hg : s₁.gens = #[])
    (ha : s₁.heap.get? a = some { cls := .type "list", data := .seq vs.toArray }) (hi : IntsAre vs ns) (hl : ns.length ≤ sizeLine) (hr : Room k callerA)
    (F : ∀ base : Heap, K.In base → base.Ns mainGlobals mg → CallG P w K mg base k fa [] sp)
    (hsp : ∀ H : Hp, Only H → SqL K H a (ns.map V.int) → sp [.ref a] H (fun v _ => v = .bl true) fun _ _ _ => False) :
    codeAny (model P w) callerA (.call (.ref fa) ⟨[.ref a], []⟩) (fun r s' => r = .ok (.ret (.bool true)) ∧ OldK s₁.heap s'.heap ∧ s'.os = s₁.os ∧ AllBare s'.gens) s₁ := by
  have rv := vals_ints hi
  obtain ⟨H, hO, hS, hok, hA⟩ : ∃ H : Hp, Only H ∧ SqL K H a (ns.map V.int) ∧ HOk P w H s₁.heap ∧ ∀ b u, H b = some u → b = a ∧ K.lookup a = none := by
    cases hk : K.lookup a with
    | some o =>
      have e := KX a o hk
      rw [ha] at e
      cases e
      exact ⟨fun _ => none, fun _ => .inl rfl, .inr ⟨_, vs.toArray, _, hk, rfl, rfl, rfl, by rw [List.size_toArray, hi.length]; exact hl, by simpa using rv⟩, (fun b u z => absurd (show (none : Option HO) = some u from z) (by simp)), (fun b u z => absurd (show (none : Option HO) = some u from z) (by simp))⟩
    | none =>
      refine ⟨upd (fun _ => none) a (.frz { cls := .type "list", data := .seq vs.toArray } (.lst (ns.map V.int))), fun b => ?_, .inl (.inr ⟨_, upd_same⟩), fun b u z => ?_, fun b u z => ?_⟩
      · by_cases hb : b = a
        · exact .inr ⟨_, _, by rw [hb]; exact upd_same⟩
        · exact .inl (upd_ne hb)
      · by_cases hb : b = a
        · subst hb
          rw [upd_same] at z
          cases z
          exact ⟨ha, by rw [List.length_map]; exact hl, vs, _, rv, ha⟩
        · rw [upd_ne hb] at z
          cases z
      · by_cases hb : b = a
        · exact ⟨hb, rfl⟩
        · rw [upd_ne hb] at z
          cases z
  have nonA : ∀ {b : Addr} {o : Obj}, s₁.heap.get? b = some o → (∀ (xs : Array Value) (n : Nat), o.data ≠ .seq xs n) → H b = none := fun {b o} e d => by
    cases q : H b with
    | none => rfl
    | some u =>
      rw [(hA b u q).1, ha] at e
      cases e
      exact absurd rfl (d _ _)
  have ns' : ∀ {b : Addr} {m : Str → Option Value}, s₁.heap.Ns b m → (hidT s₁.heap H).Ns b m := fun {b m} ⟨o, es, ep, e, d, r⟩ =>
    ⟨o, es, ep, hidT_get e (nonA e fun xs n z => by rw [d] at z; cases z), d, r⟩
  have hKb : K.In (hidT s₁.heap H) := fun b o e => hidT_get (KX b o e) (by
    cases q : H b with
    | none => rfl
    | some u =>
      obtain ⟨rfl, z⟩ := hA b u q
      rw [z] at e
      cases e)
  obtain ⟨mc, l1, l2⟩ := hlim
  have e0 : Env0 P w K mg (hidT s₁.heap H) callerA [] s₁ H :=
    ⟨rfl, ⟨hKb, ns' hns, ⟨mb, ns' hb, hbb⟩, mc, ns' l1, l2⟩, fun b o e => of_hidT e, Nat.le_of_eq (hidT_size _ _), trivial, (fun b z => absurd (show b ∈ ([] : List Addr) from z) (by simp)), hok, AllBare.of_eq hg⟩
  refine codeAny_mono (F _ hKb (ns' hns) callerA [] s₁ H [.ref a] [] [.ref a] [] _ _ hr rfl e0 (.cons rfl .nil) .nil rfl (hsp H hO hS)) fun r s' h => ?_
  cases r with
  | error e =>
    obtain ⟨_, _, _, _, _, _, _, _, _, _, _, _, z⟩ := h
    exact z.elim
  | ok fl =>
    cases fl with
    | next => exact h.elim
    | brk => exact h.elim
    | cont => exact h.elim
    | ret u =>
      obtain ⟨v, H', os, bare, un, hok', r', q⟩ := h
      obtain rfl : v = .bl true := q
      obtain rfl : u = Value.bool true := r'
      refine ⟨rfl, OldK.of_keep fun b o e => ?_, os, bare⟩
      cases q : H b with
      | none => exact un.keep b o e q (by intro z; cases z) (by simp)
      | some u =>
        rcases hO b with z | ⟨ob, xs, z⟩
        · rw [q] at z
          cases z
        · obtain ⟨e1, _⟩ := hok b _ z
          obtain ⟨e2, _⟩ := hok' b _ (un.frzs b ob _ z)
          rw [e] at e1
          cases e1
          exact e2
theorem walk_ofG {l : OpenLaw} {n k : Nat} {q : Program} {loose : List Str} {XP : (Str → Option Value) → Heap → Prop} {YP : World → Heap → Prop} {d : DefRec} {K : Params → Frag} {sp : World → Sp}
    (hn : l.most = some n) (hn2 : n ≤ sizeLine) (hdf : d.params.defaults = []) (hr : Room k callerA)
    (hY : ∀ (w : World) (h : Heap), YP w h → (K w.params).In h)
    (F : ∀ (w : World) (mg : Str → Option Value) (fa : Addr) (h : Heap), (K w.params).In h → h.Ns mainGlobals mg → mg d.name = some (.ref fa) →
      ∀ base : Heap, (K w.params).In base → base.Ns mainGlobals mg → CallG l.prog w (K w.params) mg base k fa [] (sp w))
    (hsp : ∀ (w : World) (H : Hp) (a : Addr) (ns : List Int), ns.length ≤ n → (∀ z ∈ ns, Builtin.Int.intBits z ≤ 1048576) → Only H → SqL (K w.params) H a (ns.map V.int) → sp w [.ref a] H (fun v _ => v = .bl true) fun _ _ _ => False) :
    WalkO q loose XP YP l.row.toRowW d [] (fun f vs => PySem.call f vs) :=
  Att.attach_callB hn hdf fun w _ s₁ mg mb fa o pm cd doc a vs ns G Y ho hd hcd hmg hobj hints hlen hbits hg =>
    lawG (hY w _ Y) G.T.g G.T.b G.T.builtins G.T.nolimit hg hobj hints (Nat.le_trans hlen hn2) hr (F w mg fa _ (hY w _ Y) G.T.g hmg) fun H hO hS => hsp w H a ns hlen hbits hO hS

/-! ### values by rule -/
section
variable {X : Cx}
/-- // by a divisor of either sign -/
def CDivS (_ j : Int) : Prop := j ≠ 0 ∧ j.natAbs.log2 < 9000
theorem op_fdivS : OpR X (binaryOp .FloorDiv) (rI CDivS fun i j => .int (i.fdiv j)) := opI fun i j _ _ _ _ _ hc q =>
  floordiv_int hc.1 q (.inl (PyProof.noPylong_of_log2 hc.2))
/-- repr of data -/
def rReprD (K : Frag) : List V → Hp → VK → Prop := fun xs H Q => ∃ x d, xs = [x] ∧ Dp K H x d ∧ d.showable = true ∧ d.hasDict = false ∧ d.depth ≤ 100 ∧ d.shown.length ≤ sizeLine ∧ Q (.str d.shown) H
theorem call_reprD {k : Nat} (hr : Room k X.A) (hg : X.A.guards = some []) : CallR X (.builtin "repr") (rReprD X.K) := fun pins s σ H xs us Q I r ⟨x, d, ex, hd, hs, hnd, hdp, hsz, q⟩ => by
  subst ex
  obtain ⟨u, rfl, ru⟩ := vals1 r
  obtain ⟨as, rd⟩ := Dp.reads I d x u hd ru
  have hu : X.A.units + (d.depth + 1) < cLine := by have := hr.un; omega
  cases hd with
  | non =>
    cases ru
    exact PySem.P.repr_of_none ⟨.str "None", H, I.tok _, ⟨_, rfl⟩, q⟩
  | bl b =>
    cases ru
    exact PySem.P.repr_of_bool ⟨.str (if b then "True" else "False"), H, I.tok _, ⟨_, rfl⟩, q⟩
  | int i =>
    obtain ⟨t, rfl⟩ := ru
    exact PySem.P.repr_of_int (by simpa [PyData.showable] using hs) ⟨.str (toString i), H, I.tok _, ⟨_, rfl⟩, q⟩
  | str y =>
    obtain ⟨t, rfl⟩ := ru
    exact PySem.P.repr_of_str ⟨.str (reprText y), H, I.tok _, ⟨_, rfl⟩, q⟩ hsz
  | lst _ _ =>
    cases ru
    exact repr_of_reads' rd hs (PyData.noDict_hsm hnd) hg hu (fun _ _ e => e) (fun h' u tk hk => ⟨.str _, H, I.kept hk, ⟨_, rfl⟩, q⟩) hsz
  | tup _ _ =>
    cases ru
    exact repr_of_reads' rd hs (PyData.noDict_hsm hnd) hg hu (fun _ _ e => e) (fun h' u tk hk => ⟨.str _, H, I.kept hk, ⟨_, rfl⟩, q⟩) hsz
end
end Rm
/-! Plain mathematics of numbers in lowest terms. -/
namespace Rm
/-- above / below in lowest terms, the sign above -/
def dv (a b : Int) : Int := if b < 0 then -(Int.gcd a b : Int) else (Int.gcd a b : Int)
def red (a b : Int) : Int × Int := (a.fdiv (dv a b), b.fdiv (dv a b))
def IsNum (p q : Int) : Prop := 1 ≤ q ∧ Int.gcd p q = 1
instance (p q : Int) : Decidable (IsNum p q) := by unfold IsNum; infer_instance
theorem gcd_pos' {a b : Int} (hb : b ≠ 0) : 0 < Int.gcd a b := Int.gcd_pos_of_ne_zero_right a hb
theorem dv_ne {a b : Int} (hb : b ≠ 0) : dv a b ≠ 0 := by
  have := gcd_pos' (a := a) hb
  unfold dv
  split <;> omega
theorem dv_abs (a b : Int) : (dv a b).natAbs = Int.gcd a b := by
  unfold dv
  split <;> omega
theorem dv_l (a b : Int) : dv a b ∣ a := by
  unfold dv
  split
  · exact Int.neg_dvd.mpr (Int.gcd_dvd_left ..)
  · exact Int.gcd_dvd_left ..
theorem dv_r (a b : Int) : dv a b ∣ b := by
  unfold dv
  split
  · exact Int.neg_dvd.mpr (Int.gcd_dvd_right ..)
  · exact Int.gcd_dvd_right ..
theorem fdiv_of_dvd {a d : Int} (h : d ∣ a) (hd : d ≠ 0) : a.fdiv d * d = a := by
  obtain ⟨k, rfl⟩ := h
  rw [Int.mul_fdiv_cancel_left _ hd, Int.mul_comm]
theorem red_l {a b : Int} (hb : b ≠ 0) : (red a b).1 * dv a b = a := fdiv_of_dvd (dv_l a b) (dv_ne hb)
theorem red_r {a b : Int} (hb : b ≠ 0) : (red a b).2 * dv a b = b := fdiv_of_dvd (dv_r a b) (dv_ne hb)
theorem red_pos {a b : Int} (hb : b ≠ 0) : 1 ≤ (red a b).2 := by
  have h1 := red_r (a := a) hb
  have h2 := gcd_pos' (a := a) hb
  unfold dv at h1
  split at h1
  · rename_i h
    have h3 : (red a b).2 * (Int.gcd a b : Int) = -b := by rw [Int.mul_neg] at h1; omega
    refine Int.not_lt.mp fun h4 => ?_
    have : (red a b).2 * (Int.gcd a b : Int) ≤ 0 := Int.mul_nonpos_of_nonpos_of_nonneg (by omega) (by omega)
    omega
  · rename_i h
    refine Int.not_lt.mp fun h4 => ?_
    have : (red a b).2 * (Int.gcd a b : Int) ≤ 0 := Int.mul_nonpos_of_nonpos_of_nonneg (by omega) (by omega)
    omega
theorem red_cross {a b : Int} (hb : b ≠ 0) : (red a b).1 * b = a * (red a b).2 := by
  have h1 := red_l (a := a) hb
  have h2 := red_r (a := a) hb
  generalize (red a b).1 = p at *
  generalize (red a b).2 = q at *
  generalize dv a b = d at *
  subst h1
  rw [← h2]
  rw [Int.mul_assoc, Int.mul_comm d q]
theorem red_gcd {a b : Int} (hb : b ≠ 0) : Int.gcd (red a b).1 (red a b).2 = 1 := by
  have h1 := red_l (a := a) hb
  have h2 := red_r (a := a) hb
  have h3 := gcd_pos' (a := a) hb
  have h4 : Int.gcd ((red a b).1 * dv a b) ((red a b).2 * dv a b) = Int.gcd (red a b).1 (red a b).2 * (dv a b).natAbs := Int.gcd_mul_right ..
  rw [h1, h2, dv_abs] at h4
  have h5 : Int.gcd (red a b).1 (red a b).2 * Int.gcd a b = 1 * Int.gcd a b := by omega
  exact Nat.eq_of_mul_eq_mul_right h3 h5
theorem red_num {a b : Int} (hb : b ≠ 0) : IsNum (red a b).1 (red a b).2 := ⟨red_pos hb, red_gcd hb⟩
theorem red_le1 {a b : Int} (hb : b ≠ 0) : (red a b).1.natAbs ≤ a.natAbs := by
  have h1 := congrArg Int.natAbs (red_l (a := a) hb)
  rw [Int.natAbs_mul, dv_abs] at h1
  have h3 := gcd_pos' (a := a) hb
  rw [← h1]
  exact Nat.le_mul_of_pos_right _ h3
theorem red_le2 {a b : Int} (hb : b ≠ 0) : (red a b).2.natAbs ≤ b.natAbs := by
  have h1 := congrArg Int.natAbs (red_r (a := a) hb)
  rw [Int.natAbs_mul, dv_abs] at h1
  have h3 := gcd_pos' (a := a) hb
  rw [← h1]
  exact Nat.le_mul_of_pos_right _ h3
/-- two numbers in lowest terms with the same value are the same -/
theorem num_ext {p q r s : Int} (h1 : IsNum p q) (h2 : IsNum r s) (h : p * s = r * q) : p = r ∧ q = s := by
  have e1 : q.natAbs ∣ s.natAbs := by
    have : q.natAbs ∣ p.natAbs * s.natAbs := by
      rw [← Int.natAbs_mul, h, Int.natAbs_mul]
      exact Nat.dvd_mul_left _ _
    exact Nat.Coprime.dvd_of_dvd_mul_left (by have := h1.2; unfold Int.gcd at this; exact Nat.Coprime.symm this) this
  have e2 : s.natAbs ∣ q.natAbs := by
    have : s.natAbs ∣ r.natAbs * q.natAbs := by
      rw [← Int.natAbs_mul, ← h, Int.natAbs_mul]
      exact Nat.dvd_mul_left _ _
    exact Nat.Coprime.dvd_of_dvd_mul_left (by have := h2.2; unfold Int.gcd at this; exact Nat.Coprime.symm this) this
  have e3 : q.natAbs = s.natAbs := Nat.dvd_antisymm e1 e2
  have e4 : q = s := by have := h1.1; have := h2.1; omega
  subst e4
  refine ⟨?_, rfl⟩
  exact Int.eq_of_mul_eq_mul_right (by have := h1.1; omega) h
theorem red_same {p q : Int} (h : IsNum p q) : red p q = (p, q) := by
  have hq : q ≠ 0 := by have := h.1; omega
  obtain ⟨e1, e2⟩ := num_ext (red_num (a := p) hq) h (red_cross hq)
  exact Prod.ext e1 e2
/-- a result is known by its cross product -/
theorem red_eq {a b p q : Int} (hb : b ≠ 0) (h : IsNum p q) (e : a * q = p * b) : red a b = (p, q) := by
  have h1 := red_cross (a := a) hb
  have h2 := red_num (a := a) hb
  have : (red a b).1 * q = p * (red a b).2 := by
    apply Int.eq_of_mul_eq_mul_right hb
    calc (red a b).1 * q * b = (red a b).1 * b * q := by rw [Int.mul_right_comm]
      _ = a * (red a b).2 * q := by rw [h1]
      _ = a * q * (red a b).2 := by rw [Int.mul_right_comm]
      _ = p * b * (red a b).2 := by rw [e]
      _ = p * (red a b).2 * b := by rw [Int.mul_right_comm]
  obtain ⟨e1, e2⟩ := num_ext h2 h this
  exact Prod.ext e1 e2
theorem gcd_step {x y : Int} (hx : 0 ≤ x) (hy : 0 < y) : Int.gcd y (x % y) = Int.gcd x y := by
  unfold Int.gcd
  rw [Int.natAbs_emod_of_nonneg hx, Nat.gcd_comm, ← Nat.gcd_rec, Nat.gcd_comm]
end Rm
/-! Data in the abstract heap: what kind it is, how it is carried over, how long its text is; rules by data. -/
namespace Rm
open PySem PySem.W PySem.Calls PyProof.Rows PySem.Spec L2
/-- all that is tracked stays, but at d -/
def Exb (d : Addr) (H H' : Hp) : Prop := ∀ a o, a ≠ d → H a = some o → H' a = some o
abbrev Ex := Evl.Ex
theorem Exb.refl {d : Addr} {H : Hp} : Exb d H H := fun _ _ _ e => e
theorem Exb.of {d : Addr} {H H' : Hp} (e : Ex H H') : Exb d H H' := fun a o _ z => e a o z
theorem Exb.trans {d : Addr} {H H1 H2 : Hp} (a : Exb d H H1) (b : Exb d H1 H2) : Exb d H H2 := fun x o n e => b x o n (a x o n e)
theorem Ex.upd {H : Hp} {p : Addr} {o : HO} (h : H p = none) : Ex H (upd H p o) := Evl.Ex.new h
/-- what carries data over -/
structure Car (H H' : Hp) : Prop where
  lst : ∀ a xs, Rd H a (.lst xs) → Rd H' a (.lst xs)
  tup : ∀ a xs, Rd H a (.tup xs) → Rd H' a (.tup xs)
theorem Car.ex {H H' : Hp} (e : Ex H H') : Car H H' := ⟨fun _ _ r => Evl.ex_rd e r, fun _ _ r => Evl.ex_rd e r⟩
theorem Car.exb {d : Addr} {kvs : List (Key × V)} {H H' : Hp} (hd : H d = some (.dK kvs)) (e : Exb d H H') : Car H H' := by
  have key : ∀ (a : Addr) (u : HO), (∀ k, u ≠ .dK k) → Rd H a u → Rd H' a u := fun a u hu r => by
    rcases r with r | ⟨o, r⟩
    · exact .inl (e a _ (fun z => by rw [z, hd] at r; cases r; exact hu _ rfl) r)
    · exact .inr ⟨o, e a _ (fun z => by rw [z, hd] at r; cases r) r⟩
  exact ⟨fun a xs r => key a _ (by intro k z; cases z) r, fun a xs r => key a _ (by intro k z; cases z) r⟩
theorem Car.l {K : Frag} {H H' : Hp} {a : Addr} {xs : List V} (c : Car H H') (h : SqL K H a xs) : SqL K H' a xs := h.imp (c.lst a xs) id
theorem Car.t {K : Frag} {H H' : Hp} {a : Addr} {xs : List V} (c : Car H H') (h : SqT K H a xs) : SqT K H' a xs := h.imp (c.tup a xs) id
theorem Car.trans {H H1 H2 : Hp} (a : Car H H1) (b : Car H1 H2) : Car H H2 := ⟨fun x xs r => b.lst x xs (a.lst x xs r), fun x xs r => b.tup x xs (a.tup x xs r)⟩
theorem Car.refl {H : Hp} : Car H H := ⟨fun _ _ r => r, fun _ _ r => r⟩
mutual
theorem Car.d {K : Frag} {H H' : Hp} (c : Car H H') : ∀ {d : PyData} {v : V}, Dp K H v d → Dp K H' v d
  | .none, _, h => by cases h; exact .non
  | .bool b, _, h => by cases h; exact .bl b
  | .int i, _, h => by cases h; exact .int i
  | .str x, _, h => by cases h; exact .str x
  | .list ds, _, h => by cases h with | lst a b => exact .lst (c.l a) (c.ds b)
  | .tuple ds, _, h => by cases h with | tup a b => exact .tup (c.t a) (c.ds b)
  | .dict _, _, h => by cases h
theorem Car.ds {K : Frag} {H H' : Hp} (c : Car H H') : ∀ {ds : List PyData} {vs : List V}, DpAll K H vs ds → DpAll K H' vs ds
  | [], _, h => by cases h; exact .nil
  | d :: ds, _, h => by cases h with | cons a b => exact .cons (c.d a) (c.ds b)
end
/-- the kind of data -/
def tyOf : PyData → String
  | .none => "NoneType" | .bool _ => "bool" | .int _ => "int" | .str _ => "str" | .list _ => "list" | .tuple _ => "tuple" | .dict _ => "dict"
theorem Dp.ty {K : Frag} {H : Hp} {v : V} {d : PyData} (h : Dp K H v d) : TyX K H v (.type (tyOf d)) := by
  cases h with
  | non => exact .base .non
  | bl b => exact .base (.bl b)
  | int i => exact .base (.int i)
  | str x => exact .base (.str x)
  | lst a _ =>
    rcases a with (a | ⟨o, a⟩) | ⟨o, its, n, e, c, _⟩
    · exact .base (.lst a)
    · exact .base (.frz a)
    · exact .kList e c
  | tup a _ =>
    rcases a with (a | ⟨o, a⟩) | ⟨o, its, n, e, c, _⟩
    · exact .base (.tup a)
    · exact .fTuple a
    · exact .kTuple e c
/-- isinstance(x, T) of data by a built-in class -/
def rIsD (K : Frag) : List V → Hp → VK → Prop := fun xs H Q => ∃ (x : V) (n : String) (d : PyData) (b : Bool), xs = [x, .ty n] ∧ Dp K H x d ∧ kitB (tyOf d) n = some b ∧ Q (.bl b) H
theorem call_isD {X : Cx} : CallR X (.builtin "isinstance") (rIsD X.K) := fun pins s σ H xs us Q I r ⟨x, n, d, b, ex, hd, hk, q⟩ =>
  call_isi pins s σ H xs us Q I r ⟨x, .ty n, .type (tyOf d), .type n, b, ex, .ty n, Dp.ty hd, kit_ty hk, q⟩
/-- a pair of ints stands at x -/
def NumAt (K : Frag) (H : Hp) (x : V) (p q : Int) : Prop := ∃ a, x = .ref a ∧ SqT K H a [.int p, .int q]
theorem NumAt.d {K : Frag} {H : Hp} {x : V} {p q : Int} (h : NumAt K H x p q) : Dp K H x (.tuple [.int p, .int q]) := by
  obtain ⟨a, rfl, h⟩ := h
  exact .tup h (.cons (.int p) (.cons (.int q) .nil))
theorem NumAt.of {K : Frag} {H : Hp} {x : V} {p q : Int} (h : Dp K H x (.tuple [.int p, .int q])) : NumAt K H x p q := by
  cases h with
  | tup a b =>
    cases b with
    | cons c d =>
      cases c
      cases d with
      | cons e f =>
        cases e
        cases f
        exact ⟨_, rfl, a⟩
theorem NumAt.c {K : Frag} {H H' : Hp} {x : V} {p q : Int} (h : NumAt K H x p q) (c : Car H H') : NumAt K H' x p q := by
  obtain ⟨a, e, h⟩ := h
  exact ⟨a, e, c.t h⟩
theorem NumAt.new {K : Frag} {H : Hp} {a : Addr} {p q : Int} (h : H a = some (.tup [.int p, .int q])) : NumAt K H (.ref a) p q := ⟨a, rfl, SqT.of h⟩
/-- a pair is handed back -/
def RNum (H : Hp) (Q : VK) (r : Int × Int) : Prop := ∀ p H', H p = none → Ex H H' → H' p = some (.tup [.int r.1, .int r.2]) → Q (.ref p) H'
/-! ### lengths of texts -/
mutual
def wt : PyData → Nat
  | .none => 4
  | .bool _ => 5
  | .int _ => 1921
  | .str x => (reprText x).length
  | .list xs => wtAll xs + 2
  | .tuple xs => wtAll xs + 3
  | .dict _ => 0
def wtAll : List PyData → Nat
  | [] => 0
  | x :: xs => wt x + 2 + wtAll xs
end
def lens (ts : List Str) : Nat := (ts.map fun t => t.length + 2).sum
theorem textFrom_le : ∀ (ts : List Str) (k : Nat) (acc : Str), (textFrom k acc ts).length ≤ acc.length + lens ts
  | [], k, acc => by simp [textFrom, lens]
  | t :: r, k, acc => by
    have h := textFrom_le r (k + 1) (acc ++ (if k > 0 then ", " else "" : String) ++ t)
    have e : textFrom k acc (t :: r) = textFrom (k + 1) (acc ++ (if k > 0 then ", " else "" : String) ++ t) r := rfl
    rw [e]
    have e2 : (acc ++ (if k > 0 then ", " else "" : String) ++ t : Str).length ≤ acc.length + 2 + t.length := by
      rw [Str.length_append, Str.length_append]
      have : (Str.ofString (if k > 0 then ", " else "")).length ≤ 2 := by split <;> decide
      omega
    have e3 : lens (t :: r) = t.length + 2 + lens r := by simp [lens]
    omega
theorem listText_le (ts : List Str) : (listText ts).length ≤ lens ts + 2 := by
  have h := textFrom_le ts 0 "["
  unfold listText
  rw [Str.length_append]
  have e1 : (Str.ofString "[").length = 1 := by decide
  have e2 : (Str.ofString "]").length = 1 := by decide
  omega
theorem join_le : ∀ ts : List Str, (Str.join ", " ts).length ≤ lens ts
  | [] => by decide
  | [x] => by show x.length ≤ _; simp [lens]
  | x :: y :: r => by
    have h := join_le (y :: r)
    show (x ++ Str.ofString ", " ++ Str.join ", " (y :: r)).length ≤ _
    rw [Str.length_append, Str.length_append]
    have e1 : (Str.ofString ", ").length = 2 := by decide
    have e3 : lens (x :: y :: r) = x.length + 2 + lens (y :: r) := by simp [lens]
    omega
theorem tupleText_le (ts : List Str) : (tupleText ts).length ≤ lens ts + 3 := by
  have h := join_le ts
  unfold tupleText
  rw [Str.length_append, Str.length_append]
  have e1 : (Str.ofString "(").length = 1 := by decide
  have e2 : (Str.ofString (if ts.length == 1 then ",)" else ")")).length ≤ 2 := by split <;> decide
  omega
mutual
theorem shown_le : ∀ d : PyData, d.showable = true → d.hasDict = false → d.shown.length ≤ wt d
  | .none, _, _ => by simp only [PyData.shown, wt]; decide
  | .bool b, _, _ => by simp only [PyData.shown, wt]; cases b <;> decide
  | .int i, h, _ => by
    simp only [PyData.shown, wt]
    exact int_text_len_1921 (by simpa [PyData.showable] using h)
  | .str x, _, _ => by simp only [PyData.shown, wt]; exact Nat.le_refl _
  | .list xs, h, hd => by
    simp only [PyData.shown, wt]
    have := shownAll_le xs (by simpa [PyData.showable] using h) (by simpa [PyData.hasDict] using hd)
    exact Nat.le_trans (listText_le _) (by omega)
  | .tuple xs, h, hd => by
    simp only [PyData.shown, wt]
    have := shownAll_le xs (by simpa [PyData.showable] using h) (by simpa [PyData.hasDict] using hd)
    exact Nat.le_trans (tupleText_le _) (by omega)
  | .dict _, _, hd => by simp [PyData.hasDict] at hd
theorem shownAll_le : ∀ xs : List PyData, PyData.showableAll xs = true → PyData.hasDictAll xs = false → lens (PyData.shownAll xs) ≤ wtAll xs
  | [], _, _ => by simp [PyData.shownAll, lens, wtAll]
  | x :: xs, h, hd => by
    have h' : x.showable = true ∧ PyData.showableAll xs = true := by simpa [PyData.showableAll] using h
    have hd' : x.hasDict = false ∧ PyData.hasDictAll xs = false := by simpa [PyData.hasDictAll] using hd
    have h1 := shown_le x h'.1 hd'.1
    have h2 := shownAll_le xs h'.2 hd'.2
    have e : lens (PyData.shownAll (x :: xs)) = x.shown.length + 2 + lens (PyData.shownAll xs) := by simp [lens, PyData.shownAll]
    simp only [wtAll]
    omega
end
end Rm
/-! Promises of the program's defs about numbers. -/
namespace Rm
open PySem PySem.W PySem.Calls PyProof.Rows PySem.Spec L2
def sp1 (f : V → Hp → VK → XK → Prop) : Sp := fun vs H Q E => ∃ a, vs = [a] ∧ f a H Q E
def sp2 (f : V → V → Hp → VK → XK → Prop) : Sp := fun vs H Q E => ∃ a b, vs = [a, b] ∧ f a b H Q E
def sp3 (f : V → V → V → Hp → VK → XK → Prop) : Sp := fun vs H Q E => ∃ a b c, vs = [a, b, c] ∧ f a b c H Q E
def sp4 (f : V → V → V → V → Hp → VK → XK → Prop) : Sp := fun vs H Q E => ∃ a b c d, vs = [a, b, c, d] ∧ f a b c d H Q E
theorem sp1_len {f} {x : Str} (vs : List V) (H : Hp) (Q : VK) (E : XK) (h : sp1 f vs H Q E) : vs.length = [x].length := by obtain ⟨_, rfl, _⟩ := h; rfl
theorem sp2_len {f} {x y : Str} (vs : List V) (H : Hp) (Q : VK) (E : XK) (h : sp2 f vs H Q E) : vs.length = [x, y].length := by obtain ⟨_, _, rfl, _⟩ := h; rfl
theorem sp3_len {f} {x y z : Str} (vs : List V) (H : Hp) (Q : VK) (E : XK) (h : sp3 f vs H Q E) : vs.length = [x, y, z].length := by obtain ⟨_, _, _, rfl, _⟩ := h; rfl
theorem sp4_len {f} {x y z u : Str} (vs : List V) (H : Hp) (Q : VK) (E : XK) (h : sp4 f vs H Q E) : vs.length = [x, y, z, u].length := by obtain ⟨_, _, _, _, rfl, _⟩ := h; rfl
/-- sizes: below two to the n -/
def Bd (n : Nat) (i : Int) : Prop := i.natAbs < 2 ^ n
theorem Bd.mono {m n : Nat} {i : Int} (h : Bd m i) (hm : m ≤ n) : Bd n i := Nat.lt_of_lt_of_le h (Nat.pow_le_pow_right (by decide) hm)
theorem Bd.mul {m n : Nat} {i j : Int} (h : Bd m i) (k : Bd n j) : Bd (m + n) (i * j) := by
  unfold Bd at *
  rw [Int.natAbs_mul, Nat.pow_add]
  exact Nat.mul_lt_mul'' h k
theorem Bd.add {m : Nat} {i j : Int} (h : Bd m i) (k : Bd m j) : Bd (m + 1) (i + j) := by
  unfold Bd at *
  have : (i + j).natAbs ≤ i.natAbs + j.natAbs := Int.natAbs_add_le ..
  rw [Nat.pow_succ]
  omega
theorem Bd.neg {m : Nat} {i : Int} (h : Bd m i) : Bd m (-i) := by unfold Bd at *; rwa [Int.natAbs_neg]
theorem Bd.sub {m : Nat} {i j : Int} (h : Bd m i) (k : Bd m j) : Bd (m + 1) (i - j) := by rw [Int.sub_eq_add_neg]; exact h.add k.neg
theorem Bd.log {n : Nat} {i : Int} (h : Bd n i) (hn : 0 < n) : i.natAbs.log2 < n := PySem.Flt.log2_lt_of hn h
theorem Bd.mulW {m n : Nat} {i j : Int} (h : Bd m i) (k : Bd n j) (hm : 0 < m := by decide) (hn : 0 < n := by decide) (hs : m + n ≤ 1000000 := by decide) : CMulW i j := wide_mul h k hm hn hs
theorem Bd.fdiv {i j : Int} (h : Bd 9000 j) (h0 : j ≠ 0) : CDivS i j := ⟨h0, h.log (by decide)⟩
theorem Bd.red1 {n : Nat} {a b : Int} (h : Bd n a) (hb : b ≠ 0) : Bd n (red a b).1 := Nat.lt_of_le_of_lt (red_le1 hb) h
theorem Bd.red2 {n : Nat} {a b : Int} (h : Bd n b) (hb : b ≠ 0) : Bd n (red a b).2 := Nat.lt_of_le_of_lt (red_le2 hb) h

def isIntD : PyData → Bool
  | .int _ => true
  | _ => false
def isNumD : PyData → Bool
  | .tuple [.int a, .int b] => decide (IsNum a b)
  | _ => false
def spIsInt (K : Frag) : Sp := sp1 fun x H Q _ => ∃ d, Dp K H x d ∧ Q (.bl (isIntD d)) H
def spGcd : Sp := sp2 fun x y H Q _ => ∃ a b, x = .int a ∧ y = .int b ∧ Q (.int (Int.gcd a b : Nat)) H
def spRed : Sp := sp2 fun x y H Q _ => ∃ a b, x = .int a ∧ y = .int b ∧ b ≠ 0 ∧ Bd 9000 b ∧ RNum H Q (red a b)
def spIsNum (K : Frag) : Sp := sp1 fun x H Q _ => ∃ d, Dp K H x d ∧ ∀ H', Ex H H' → Q (.bl (isNumD d)) H'
/-- the first that is no number -/
def fb : List V → List PyData → Option V
  | x :: xs, d :: ds => if isNumD d = true then fb xs ds else some x
  | _, _ => none
/-- an error of the class C with the one field f = x -/
def RErr (H : Hp) (E : XK) (C : Addr) (f : Str) (x : V) : Prop := ∀ d H', Ex H H' → H' d = some (.xd [(f, x)]) → E (.ref C) (some d) H'
def spCheckNums (K : Frag) (C : Addr) : Sp := fun vs H Q E => ∃ ds, vs.length ≤ 1000 ∧ DpAll K H vs ds ∧ match fb vs ds with
  | none => ∀ H', Ex H H' → Q .non H'
  | some x => RErr H E C "thing" x
def spCheckNums1 (K : Frag) (C : Addr) : Sp := sp1 fun x H Q E => ∃ p vs, x = .ref p ∧ SqT K H p vs ∧ spCheckNums K C vs H Q E
def spNumber (K : Frag) (C : Addr) : Sp := sp2 fun x y H Q E => ∃ dx dy, Dp K H x dx ∧ Dp K H y dy ∧
  ((∀ a b, dx = .int a → dy = .int b → b ≠ 0 → Bd 9000 b ∧ RNum H Q (red a b)) ∧
   ((∀ a b, dx = .int a → dy = .int b → b = 0) → ∀ t H1, H t = none → H1 = upd H t (.tup [x, y]) → RErr H1 E C "thing" (.ref t)))
/-- two numbers in, an operation by parts -/
def spNum2 (K : Frag) (f : Int → Int → Int → Int → Hp → VK → XK → Prop) : Sp := sp2 fun x y H Q E => ∃ p q r s, NumAt K H x p q ∧ NumAt K H y r s ∧ f p q r s H Q E
def spPlus (K : Frag) : Sp := spNum2 K fun p q r s H Q _ => Bd 4000 p ∧ Bd 4000 q ∧ Bd 4000 r ∧ Bd 4000 s ∧ q * s ≠ 0 ∧ RNum H Q (red (p * s + r * q) (q * s))
def spMinus (K : Frag) : Sp := spNum2 K fun p q r s H Q _ => Bd 4000 p ∧ Bd 4000 q ∧ Bd 4000 r ∧ Bd 4000 s ∧ q * s ≠ 0 ∧ RNum H Q (red (p * s - r * q) (q * s))
def spTimes (K : Frag) : Sp := spNum2 K fun p q r s H Q _ => Bd 4000 p ∧ Bd 4000 q ∧ Bd 4000 r ∧ Bd 4000 s ∧ q * s ≠ 0 ∧ RNum H Q (red (p * r) (q * s))
def spOver (K : Frag) : Sp := spNum2 K fun p q r s H Q _ => Bd 4000 p ∧ Bd 4000 q ∧ Bd 4000 r ∧ Bd 4000 s ∧ q * r ≠ 0 ∧ RNum H Q (red (p * s) (q * r))
def spLess (K : Frag) : Sp := spNum2 K fun p q r s H Q _ => Bd 4000 p ∧ Bd 4000 q ∧ Bd 4000 r ∧ Bd 4000 s ∧ Q (.bl (decide (p * s < r * q))) H
/-- any two things in: the first that is no number is refused, else f -/
def spBin (K : Frag) (C : Addr) (f : V → V → Int → Int → Int → Int → Hp → VK → XK → Prop) : Sp := sp2 fun x y H Q E => ∃ dx dy, Dp K H x dx ∧ Dp K H y dy ∧
  (∀ z, fb [x, y] [dx, dy] = some z → RErr H E C "thing" z) ∧
  (∀ p q r s, dx = .tuple [.int p, .int q] → dy = .tuple [.int r, .int s] → IsNum p q → IsNum r s → Bd 4000 p ∧ Bd 4000 q ∧ Bd 4000 r ∧ Bd 4000 s ∧ f x y p q r s H Q E)
def spAdd (K : Frag) (C : Addr) : Sp := spBin K C fun _ _ p q r s H Q _ => RNum H Q (red (p * s + r * q) (q * s))
def spSub (K : Frag) (C : Addr) : Sp := spBin K C fun _ _ p q r s H Q _ => RNum H Q (red (p * s - r * q) (q * s))
def spMul (K : Frag) (C : Addr) : Sp := spBin K C fun _ _ p q r s H Q _ => RNum H Q (red (p * r) (q * s))
def spDiv (K : Frag) (C : Addr) : Sp := spBin K C fun _ y p q r s H Q E => (r = 0 → RErr H E C "thing" y) ∧ (r ≠ 0 → RNum H Q (red (p * s) (q * r)))
def sgn3 (a b : Int) : Int := (if b < a then 1 else 0) - (if a < b then 1 else 0)
def spCmp (K : Frag) (C : Addr) : Sp := spBin K C fun _ _ p q r s H Q _ => ∀ H', Ex H H' → Q (.int (sgn3 (p * s) (r * q))) H'
def spWhole (K : Frag) : Sp := sp1 fun x H Q _ => ∃ p q, NumAt K H x p q ∧ q ≠ 0 ∧ Bd 9000 q ∧ Q (.int (p.fdiv q)) H
def spFloor (K : Frag) (C : Addr) : Sp := sp1 fun x H Q E => ∃ dx, Dp K H x dx ∧ (isNumD dx = false → RErr H E C "thing" x) ∧ (∀ p q, dx = .tuple [.int p, .int q] → IsNum p q → Bd 9000 q ∧ ∀ H', Ex H H' → Q (.int (p.fdiv q)) H')
theorem isNumD_inv {d : PyData} (h : isNumD d = true) : ∃ p q, d = .tuple [.int p, .int q] ∧ IsNum p q := by
  unfold isNumD at h
  split at h
  · exact ⟨_, _, rfl, of_decide_eq_true h⟩
  · cases h
end Rm
namespace Rm
open PySem PySem.W PySem.Calls PyProof.Rows PySem.Spec L2
def isIB : PyData → Bool
  | .int _ => true
  | .bool _ => true
  | _ => false
def isBoolD : PyData → Bool
  | .bool _ => true
  | _ => false
def isTupD : PyData → Bool
  | .tuple _ => true
  | _ => false
def isStrD : PyData → Bool
  | .str _ => true
  | _ => false
theorem kit_int (d : PyData) : kitB (tyOf d) "int" = some (isIB d) := by cases d <;> (simp only [tyOf, isIB]; decide +kernel)
theorem kit_bool (d : PyData) : kitB (tyOf d) "bool" = some (isBoolD d) := by cases d <;> (simp only [tyOf, isBoolD]; decide +kernel)
theorem kit_tuple (d : PyData) : kitB (tyOf d) "tuple" = some (isTupD d) := by cases d <;> (simp only [tyOf, isTupD]; decide +kernel)
theorem kit_str (d : PyData) : kitB (tyOf d) "str" = some (isStrD d) := by cases d <;> (simp only [tyOf, isStrD]; decide +kernel)
theorem DpAll.len {K : Frag} {H : Hp} : ∀ {vs : List V} {ds : List PyData}, DpAll K H vs ds → vs.length = ds.length
  | [], [], .nil => rfl
  | _ :: _, _ :: _, .cons _ t => congrArg (· + 1) (DpAll.len t)
theorem isNumD_tup {ds : List PyData} (h : ds.length ≠ 2) : isNumD (.tuple ds) = false := by
  match ds, h with
  | [], _ => rfl
  | [a], _ => cases a <;> rfl
  | a :: b :: c :: r, _ => cases a <;> (try rfl) <;> cases b <;> rfl
theorem isNumD_1 {a b : PyData} (h : isIntD a = false) : isNumD (.tuple [a, b]) = false := by cases a <;> first | rfl | cases h
theorem isNumD_2 {a b : PyData} (h : isIntD b = false) : isNumD (.tuple [a, b]) = false := by cases a <;> (try rfl) <;> cases b <;> first | rfl | cases h
theorem isIntD_inv {d : PyData} (h : isIntD d = true) : ∃ i, d = .int i := by cases d <;> first | exact ⟨_, rfl⟩ | cases h
theorem iteB {b : Bool} {A B : Prop} (h1 : b = true → A) (h2 : b = false → B) : if b = true then A else B := by
  cases b
  · exact iteF (h2 rfl)
  · exact iteT (h1 rfl)
theorem DpAll.two {K : Frag} {H : Hp} : ∀ {vs : List V} {ds : List PyData}, DpAll K H vs ds → vs.length = 2 → ∃ u v du dv, vs = [u, v] ∧ ds = [du, dv] ∧ Dp K H u du ∧ Dp K H v dv
  | [u, v], _, .cons a (.cons b .nil), _ => ⟨u, v, _, _, rfl, rfl, a, b⟩
theorem fb_drop {K : Frag} {H : Hp} : ∀ {vs : List V} {ds : List PyData} {i : Nat} {x : V}, DpAll K H vs ds → vs[i]? = some x → ∃ d, ds[i]? = some d ∧ Dp K H x d ∧ fb (vs.drop i) (ds.drop i) = (if isNumD d = true then fb (vs.drop (i + 1)) (ds.drop (i + 1)) else some x)
  | v :: vs, d :: ds, 0, x, .cons a b, h => by
    simp at h
    subst h
    exact ⟨d, rfl, a, rfl⟩
  | v :: vs, d :: ds, i + 1, x, .cons a b, h => by
    obtain ⟨d', e1, e2, e3⟩ := fb_drop (i := i) (x := x) b (by simpa using h)
    exact ⟨d', by simpa using e1, e2, by simpa using e3⟩
  | [], [], _, _, .nil, h => by simp at h
end Rm
namespace Rm
open PySem PySem.W PySem.Calls PyProof.Rows PySem.Spec L2
section
variable {P : Program} {w : World} {K : Frag} {mg : Str → Option Value} {base : Heap} {k : Nat} {f C : Addr} {fd : FuncData} {ps : List Str} {spB : Sp}
theorem FunD_okB {x qual : Str} {params : Arguments} {body : List Stmt} {scope : Scope} {dvs : List V} {kws : List (Str × V)} {N : List Str} (F : FunD K x qual params body scope dvs kws f fd) (S : FnScope N ps scope)
    (hbody : ∀ (cdv : Value) (A : Around) (outer : List Env) (s : Shared) (H : Hp) (vs : List V) (Q : VK) (E : XK), Room k (A.deeper (envOfC qual scope s.heap.objs.size f cdv)) → A.guards = some [] → spB vs H Q E →
      ∃ t, PSs (cxOf (L2.CX P w) P w K mg base N qual scope f cdv A outer s H E) body t ∧ t { nx := fun _ H' => Q .non H', rt := Q } (start N vs) H) : FnB P w K mg base (k + 1) f fd ps spB := by
  obtain ⟨oc, od, dV, kV, doc, pm, an, cdv, ct, osl, rfl, lk, hcd, _⟩ := F.ex
  exact fnB_of lk hcd S fun A outer s H vs Q E hr hg hsp => hbody cdv A outer s H vs Q E hr hg hsp
theorem pe_gcc {X : Cx} {x : Str} {v : V} {pos : Pos} (hg : Gl X x) (h : ∃ u, X.mg x = some u ∧ RelV v u) (hd : (x == ("__debug__" : Str)) = false := by decide) : PE X (.Name x pos) (tC v) := by
  obtain ⟨u, hm, r⟩ := h
  exact pe_glob hg hm r hd
variable {H H1 : Hp} {Q : VK} {E : XK} {vs : List V} {x y : V} {dx dy : PyData}
theorem RErr.ex {s : Str} (e : Ex H H1) (h : RErr H E C s x) : RErr H1 E C s x := fun d H' e' hd => h d H' (e.trans e') hd
theorem RNum.ex {r : Int × Int} (e : Ex H H1) (h : RNum H Q r) : RNum H1 Q r := fun p H' hp e' hd => h p H' (Evl.fresh_back e hp) (e.trans e') hd
theorem checkNums_in (h : spCheckNums K C vs H Q E) : vs.length ≤ sizeLine ∧ ∀ p, H p = none → spCheckNums1 K C [.ref p] (upd H p (.tup vs)) Q E := by
  obtain ⟨ds, hl, hd, q⟩ := h
  refine ⟨by rw [sizeLine_eq]; omega, fun p hp => ⟨_, rfl, p, vs, rfl, SqT.of upd_same, ds, hl, (Car.ex (Evl.Ex.new hp)).ds hd, ?_⟩⟩
  cases e : fb vs ds with
  | none =>
    rw [e] at q
    exact fun H' e' => q H' ((Evl.Ex.new hp).trans e')
  | some z =>
    rw [e] at q
    exact RErr.ex (Evl.Ex.new hp) q
theorem fb_none2 (h : fb [x, y] [dx, dy] = none) : isNumD dx = true ∧ isNumD dy = true := by
  simp only [fb] at h
  split at h
  · split at h
    · constructor <;> assumption
    · cases h
  · cases h
theorem fb_none1 (h : fb [x] [dx] = none) : isNumD dx = true := by
  simp only [fb] at h
  split at h
  · assumption
  · cases h
theorem fb_some1 {z : V} (h : fb [x] [dx] = some z) : isNumD dx = false ∧ z = x := by
  simp only [fb] at h
  split at h
  · cases h
  · cases h
    exact ⟨by simp_all, rfl⟩
/-- check_numbers(first, second) ahead of an operation by parts -/
theorem bin_in {Q' : VK} (hx : Dp K H x dx) (hy : Dp K H y dy) (qe : ∀ z, fb [x, y] [dx, dy] = some z → RErr H E C "thing" z)
    (qn : ∀ p q r s, dx = .tuple [.int p, .int q] → dy = .tuple [.int r, .int s] → IsNum p q → IsNum r s → ∀ H', Ex H H' → NumAt K H' x p q → NumAt K H' y r s → Q' .non H') :
    [x, y].length ≤ sizeLine ∧ ∀ p, H p = none → spCheckNums1 K C [.ref p] (upd H p (.tup [x, y])) Q' E := by
  refine checkNums_in ⟨[dx, dy], by show 2 ≤ 1000; decide, .cons hx (.cons hy .nil), ?_⟩
  cases e : fb [x, y] [dx, dy] with
  | some z => exact qe z e
  | none =>
    obtain ⟨h1, h2⟩ := fb_none2 e
    obtain ⟨p, q, rfl, i1⟩ := isNumD_inv h1
    obtain ⟨r, s, rfl, i2⟩ := isNumD_inv h2
    exact fun H' e' => qn p q r s rfl rfl i1 i2 H' e' (NumAt.of ((Car.ex e').d hx)) (NumAt.of ((Car.ex e').d hy))
end
theorem ne0_of {p q r s : Int} (h1 : IsNum p q) (h2 : IsNum r s) : q * s ≠ 0 := by
  have := Int.mul_pos (show (0 : Int) < q from h1.1) (show (0 : Int) < s from h2.1)
  omega
theorem shaped_num (p q : Int) : SeqAt.shaped (.tuple [.int p, .int q]) = true := by
  simp [SeqAt.shaped, PyData.canLay0, PyData.canLayAll0, PyData.depth, PyData.depthAll]
theorem eqv_num (p q r s : Int) : PyData.eqv (.tuple [.int p, .int q]) (.tuple [.int r, .int s]) = (decide (p = r) && decide (q = s)) := by
  simp only [PyData.eqv, PyData.eqvAll, Bool.and_true]
  rfl
end Rm
namespace Rm
open PySem PySem.W PySem.Calls PyProof.Rows PySem.Spec L2
/-- all parameters given by place, whatever the defaults are -/
theorem _root_.L2.FunD.bindsP {K : Frag} {x qual : Str} {params : Arguments} {body : List Stmt} {scope : Scope} {dvs : List V} {kws : List (Str × V)} {f : Addr} {fd : FuncData} {ps : List Str} (F : FunD K x qual params body scope dvs kws f fd)
    (h : ∀ (dV kV doc pm : Value) (an : Option Addr) (cdv ct : Value) (us : List Value), us.length = ps.length → bindArgs (fnOf x qual params body scope dV kV doc pm an cdv ct) ⟨us, []⟩ = pure (ps.zip us)) : Binds K fd ps [] := by
  obtain ⟨oc, od, dV, kV, doc, pm, an, cdv, ct, osl, rfl, _⟩ := F.ex
  exact Binds.all fun us hl => h dV kV doc pm an cdv ct us hl
end Rm
namespace Rm
open PySem PySem.W PySem.Calls PyProof.Rows PySem.Spec L2
/-- a call of a def with defaults, whatever its shape: the defaults' tuple is read -/
theorem _root_.L2.FunD.toB {K : Frag} {x qual : Str} {params : Arguments} {body : List Stmt} {scope : Scope} {dvs : List V} {kws : List (Str × V)} {f : Addr} {fd : FuncData} (F : FunD K x qual params body scope dvs kws f fd) (hd : dvs ≠ []) {args : Args} {binds : List (Str × Value)}
    (h : ∀ (T : Addr) (kV doc pm : Value) (an : Option Addr) (cdv ct : Value) (its : List Value), its.length = dvs.length →
      ∃ k, bindArgs (fnOf x qual params body scope (.ref T) kV doc pm an cdv ct) args = seqItems? (.ref T) >>= k ∧ k (some its.toArray) = pure binds) (s : Shared) (X : K.In s.heap) : BindsTo s fd args binds := by
  obtain ⟨oc, od, dV, kV, doc, pm, an, cdv, ct, osl, rfl, _, _, hD, _⟩ := F.ex
  rcases hD with ⟨e, _⟩ | ⟨_, T, o, its, n, rfl, lT, oT, r⟩
  · exact absurd e hd
  · obtain ⟨k, h1, h2⟩ := h T kV doc pm an cdv ct its r.length.symm
    refine BindsTo.of_looks fun M => ?_
    rw [h1]
    exact looks_items X lT oT (Looks.of_pure h2)
end Rm
namespace Rm
open PySem PySem.W PySem.Calls PyProof.Rows PySem.Spec L2
/-- the arguments in another order -/
def permV (ix : List Nat) (vs : List V) : List V := ix.map fun i => vs.getD i .non
def permU (ix : List Nat) (us : List Value) : List Value := ix.map fun i => us.getD i Value.none
theorem vals_getD : ∀ {vs : List V} {us : List Value} (i : Nat), Vals vs us → RelV (vs.getD i .non) (us.getD i Value.none)
  | [], [], i, .nil => by simp; rfl
  | _ :: _, _ :: _, 0, .cons a _ => by simpa using a
  | v :: vs, u :: us, i + 1, .cons _ b => by simpa using vals_getD i b
theorem vals_perm {vs : List V} {us : List Value} (r : Vals vs us) : ∀ ix : List Nat, Vals (permV ix vs) (permU ix us)
  | [] => .nil
  | i :: ix => .cons (vals_getD i r) (vals_perm r ix)
theorem FnB.perm {P : Program} {w : World} {K : Frag} {mg : Str → Option Value} {base : Heap} {k : Nat} {f : Addr} {fd : FuncData} {ps ks : List Str} {spB : Sp} (F : FnB P w K mg base k f fd ps spB) (ix : List Nat) (m : Nat)
    (hl : ∀ vs H Q E, spB vs H Q E → vs.length = ps.length)
    (hb : ∀ (s : Shared) (us ws : List Value), K.In s.heap → ws.length = ks.length → (us ++ ws).length = m → BindsTo s fd ⟨us, ks.zip ws⟩ (ps.zip (permU ix (us ++ ws)))) :
    CallG P w K mg base k f ks (fun vs H Q E => vs.length = m ∧ spB (permV ix vs) H Q E) := fun A outer s H us ws vs zs Q E hr hgd e0 r1 r2 hw hsp => by
  obtain ⟨hm, hsp⟩ := hsp
  have r0 := r1.append r2
  have r := vals_perm r0 ix
  have len := hl _ _ _ _ hsp
  refine F A outer s H _ Q E (fun vs' H2 => vs' = permV ix (vs ++ zs) ∧ H2 = H) hr hgd e0 (fun A' Ex Q' h => ?_) fun vs' H2 z => by
    obtain ⟨rfl, rfl⟩ := z
    exact hsp
  refine hb s us ws (e0.mod.kin.keeps fun b o e => (e0.bs b o e).1) hw (by rw [← r0.length]; exact hm) _ _ _ _ ?_
  exact h s H _ _ e0 Un.refl rfl (fun _ _ z => z) r len ⟨rfl, rfl⟩
end Rm
/-! The draws of a law: a dict of the cells that are left. -/
namespace Rm
open PySem PySem.W PySem.Calls PyProof.Rows PySem.Spec L2
/-- list + list, whoever laid them -/
def rCatL (K : Frag) : R2 := fun x y H Q => ∃ l b xs zs, x = .ref l ∧ y = .ref b ∧ SqL K H l xs ∧ SqL K H b zs ∧ xs.length + zs.length ≤ sizeLine ∧ ∀ p, H p = none → Q (.ref p) (upd H p (.lst (xs ++ zs)))
theorem op_catL {X : Cx} : OpR X (binaryOp .Add) (rCatL X.K) := by
  intro pins s σ H x y v u Q I rx ry h
  obtain ⟨l, b, xs, zs, rfl, rfl, hH, hB, hz, q⟩ := h
  cases rx
  cases ry
  obtain ⟨its, r, ⟨⟨cls, dd, data, sl⟩, n, ho, hc, _, hd⟩, _⟩ := I.list hH
  obtain ⟨its2, r2, ⟨⟨cls2, dd2, data2, sl2⟩, n2, ho2, hc2, _, hd2⟩, _⟩ := I.list hB
  simp only at hc hd hc2 hd2
  subst hc hd hc2 hd2
  have hsz : its.toArray.size + its2.toArray.size ≤ sizeLine := by
    rw [List.size_toArray, List.size_toArray, ← r.length, ← r2.length]
    exact hz
  refine concat_meets ⟨_, ho, rfl⟩ ⟨_, ho2, rfl⟩ noFill_list_add seq_list_add PySem.F.slot_list_add PySem.F.entry_list_add (PySem.F.args_list_add_2 _ _) (list_addW l b its.toArray its2.toArray n n2 dd dd2 sl sl2 hsz) ⟨ho, ho2, ?_⟩
  have ea : its.toArray ++ its2.toArray = (its ++ its2).toArray := by simp
  rw [ea]
  exact ⟨.ref _, _, I.lnew (t' := s.toks) (r.append r2) (by rw [List.length_append]; exact hz), rfl, q _ I.fresh⟩
def drawD (c : Addr) (a l u : Int) : List (Key × V) := [(.inr "cells", .ref c), (.inr "at", .int a), (.inr "left", .int l), (.inr "used", .int u)]
/-- the draws at d after n of them at most -/
def DrawAt (K : Frag) (H : Hp) (d : Addr) (n : Nat) : Prop := ∃ (c : Addr) (cells : List Int) (a l u : Int), H d = some (.dK (drawD c a l u)) ∧ SqL K H c (cells.map V.int) ∧ cells ≠ [] ∧ cells.length ≤ 1000 ∧ 0 ≤ a ∧ a ≤ n ∧ 0 ≤ u ∧ u ≤ n
section
variable {K : Frag} {H H' : Hp} {d : Addr} {n m : Nat}
theorem DrawAt.mono (h : DrawAt K H d n) (hm : n ≤ m) : DrawAt K H d m := by
  obtain ⟨c, cells, a, l, u, h1, h2, h3, h4, h5, h6, h7, h8⟩ := h
  exact ⟨c, cells, a, l, u, h1, h2, h3, h4, h5, by omega, h7, by omega⟩
theorem DrawAt.ex (h : DrawAt K H d n) (e : Ex H H') : DrawAt K H' d n := by
  obtain ⟨c, cells, a, l, u, h1, h2, h3⟩ := h
  exact ⟨c, cells, a, l, u, e _ _ h1, (Car.ex e).l h2, h3⟩
theorem DrawAt.car (h : DrawAt K H d n) (e : Exb d H H') : Car H H' := by
  obtain ⟨c, cells, a, l, u, h1, _⟩ := h
  exact Car.exb h1 e
end
theorem draw_cells {c : Addr} {a l u : Int} : valV (drawD c a l u) (.inr "cells") = some (.ref c) := by kernel_rfl
theorem draw_at {c : Addr} {a l u : Int} : valV (drawD c a l u) (.inr "at") = some (.int a) := by kernel_rfl
theorem draw_left {c : Addr} {a l u : Int} : valV (drawD c a l u) (.inr "left") = some (.int l) := by kernel_rfl
theorem draw_used {c : Addr} {a l u : Int} : valV (drawD c a l u) (.inr "used") = some (.int u) := by kernel_rfl
theorem put_at {c : Addr} {a l u i : Int} : putK (drawD c a l u) (.inr "at") (.int i) = drawD c i l u := by kernel_rfl
theorem put_left {c : Addr} {a l u i : Int} : putK (drawD c a l u) (.inr "left") (.int i) = drawD c a i u := by kernel_rfl
theorem put_used {c : Addr} {a l u i : Int} : putK (drawD c a l u) (.inr "used") (.int i) = drawD c a l i := by kernel_rfl
section
variable {H : Hp} {d c : Addr} {a l u i : Int}
theorem dget_cells (h : H d = some (.dK (drawD c a l u))) : DGet H d (.str "cells") (some (.ref c)) := draw_cells (c := c) (a := a) (l := l) (u := u) ▸ DGet.k (k := Sum.inr "cells") h
theorem dget_at (h : H d = some (.dK (drawD c a l u))) : DGet H d (.str "at") (some (.int a)) := draw_at (c := c) (a := a) (l := l) (u := u) ▸ DGet.k (k := Sum.inr "at") h
theorem dget_left (h : H d = some (.dK (drawD c a l u))) : DGet H d (.str "left") (some (.int l)) := draw_left (c := c) (a := a) (l := l) (u := u) ▸ DGet.k (k := Sum.inr "left") h
theorem dget_used (h : H d = some (.dK (drawD c a l u))) : DGet H d (.str "used") (some (.int u)) := draw_used (c := c) (a := a) (l := l) (u := u) ▸ DGet.k (k := Sum.inr "used") h
theorem lenD : (drawD c a l u).length < sizeLine := by rw [sizeLine_eq]; show 4 < 16777216; decide
theorem dput_at (h : H d = some (.dK (drawD c a l u))) : DPut H d (.str "at") (.int i) (upd H d (.dK (drawD c i l u))) := put_at (c := c) (a := a) (l := l) (u := u) (i := i) ▸ DPut.k (k := Sum.inr "at") h lenD
theorem dput_left (h : H d = some (.dK (drawD c a l u))) : DPut H d (.str "left") (.int i) (upd H d (.dK (drawD c a i u))) := put_left (c := c) (a := a) (l := l) (u := u) (i := i) ▸ DPut.k (k := Sum.inr "left") h lenD
theorem dput_used (h : H d = some (.dK (drawD c a l u))) : DPut H d (.str "used") (.int i) (upd H d (.dK (drawD c a l i))) := put_used (c := c) (a := a) (l := l) (u := u) (i := i) ▸ DPut.k (k := Sum.inr "used") h lenD
end
theorem Exb.upd {d : Addr} {H H' : Hp} {o : HO} (e : Exb d H H') : Exb d H (upd H' d o) := fun a u n h => by
  rw [upd_ne n]
  exact e a u n h
theorem Exb.ex {d : Addr} {H H1 H' : Hp} (a : Exb d H H1) (b : Ex H1 H') : Exb d H H' := a.trans (Exb.of b)
theorem Exb.exl {d : Addr} {H H1 H' : Hp} (a : Ex H H1) (b : Exb d H1 H') : Exb d H H' := (Exb.of a).trans b
/-- promises of the drawing defs -/
def spBegin (K : Frag) : Sp := sp1 fun x H Q _ => ∃ (a : Addr) (ns : List Int), x = .ref a ∧ SqL K H a (ns.map V.int) ∧ ns.length ≤ 63 ∧ ∀ d H', H d = none → Ex H H' → DrawAt K H' d 0 → Q (.ref d) H'
def spMixed : Sp := sp2 fun x y H Q _ => ∃ c k, x = .int c ∧ y = .int k ∧ 0 ≤ k ∧ k < 2 ^ 60 ∧ ∀ r, Q (.int r) H
def RDr (K : Frag) (H : Hp) (d : Addr) (n : Nat) (k : Hp → Prop) : Prop := ∀ H', DrawAt K H' d n → Exb d H H' → k H'
def spNext (K : Frag) : Sp := sp2 fun x y H Q _ => ∃ d n b, x = .ref d ∧ y = .int b ∧ DrawAt K H d n ∧ n < 2 ^ 50 ∧ 0 < b ∧ b < 2 ^ 60 ∧ ∀ r, 0 ≤ r → r < b → RDr K H d (n + 1) (Q (.int r))
theorem atI_mem {xs : List V} {r : Int} (h0 : 0 ≤ r) (h1 : r < xs.length) : ∃ v, atI xs r = some v ∧ v ∈ xs := by
  have e : ((r.toNat : Nat) : Int) = r := Int.toNat_of_nonneg h0
  have hn : r.toNat < xs.length := by omega
  refine ⟨xs[r.toNat], ?_, List.getElem_mem hn⟩
  have h : ixN xs.length r = some r.toNat := by
    unfold ixN
    rw [if_pos h0, if_pos (by omega)]
  unfold atI
  rw [h]
  show xs[r.toNat]? = _
  rw [List.getElem?_eq_getElem hn]
theorem sz5 {n : Nat} (h : n ≤ 1000) : n ≤ sizeLine := by rw [sizeLine_eq]; omega
theorem isNumD_is {p q : Int} (i : IsNum p q) : isNumD (.tuple [.int p, .int q]) = true := decide_eq_true i
theorem fb_nums {x y : V} {p q r s : Int} (i1 : IsNum p q) (i2 : IsNum r s) : fb [x, y] [.tuple [.int p, .int q], .tuple [.int r, .int s]] = none := by
  simp only [fb, isNumD_is i1, isNumD_is i2, if_true]
/-- an operation that refuses -/
theorem bin_ref {K : Frag} {C : Addr} {f : V → V → Int → Int → Int → Int → Hp → VK → XK → Prop} {x y v : V} {dx dy : PyData} {H : Hp} {Q : VK} {E : XK} (hx : Dp K H x dx) (hy : Dp K H y dy) (h : fb [x, y] [dx, dy] = some v) (r : RErr H E C "thing" v) :
    spBin K C f [x, y] H Q E := ⟨x, y, rfl, dx, dy, hx, hy, (fun z e => by
    rw [h] at e
    cases e
    exact r), (fun p q r s e1 e2 i1 i2 => by
    subst e1 e2
    rw [fb_nums i1 i2] at h
    cases h)⟩
/-- an operation of two numbers -/
theorem bin_num {K : Frag} {C : Addr} {f : V → V → Int → Int → Int → Int → Hp → VK → XK → Prop} {x y : V} {p q r s : Int} {H : Hp} {Q : VK} {E : XK} (hx : NumAt K H x p q) (hy : NumAt K H y r s) (i1 : IsNum p q) (i2 : IsNum r s)
    (b1 : Bd 4000 p) (b2 : Bd 4000 q) (b3 : Bd 4000 r) (b4 : Bd 4000 s) (h : f x y p q r s H Q E) :
    spBin K C f [x, y] H Q E := ⟨x, y, rfl, _, _, hx.d, hy.d, (fun z e => by
    rw [fb_nums i1 i2] at e
    cases e), (fun p' q' r' s' e1 e2 _ _ => by
    cases e1
    cases e2
    exact ⟨b1, b2, b3, b4, h⟩)⟩
/-- data that repr shows: how deep, how long -/
structure Gd (k m : Nat) (d : PyData) : Prop where
  s : d.showable = true
  n : d.hasDict = false
  p : d.depth ≤ k
  w : wt d ≤ m
theorem Gd.mono {k m k' m' : Nat} {d : PyData} (g : Gd k m d) (h1 : k ≤ k') (h2 : m ≤ m') : Gd k' m' d := ⟨g.s, g.n, Nat.le_trans g.p h1, Nat.le_trans g.w h2⟩
theorem Gd.l {k : Nat} {d : PyData} (g : Gd k 16000000 d) : d.shown.length ≤ sizeLine := by rw [sizeLine_eq]; have := shown_le d g.s g.n; have := g.w; omega
theorem rep_gd {K : Frag} {H : Hp} {Q : VK} {x : V} {d : PyData} (hd : Dp K H x d) (g : Gd 100 16000000 d) (q : Q (.str d.shown) H) : rReprD K [x] H Q :=
  ⟨x, d, rfl, hd, g.s, g.n, g.p, by rw [sizeLine_eq]; have := shown_le d g.s g.n; have := g.w; omega, q⟩
theorem Gd.int {i : Int} (h : Bd 1900 i) : Gd 0 1921 (.int i) := ⟨by simp only [PyData.showable]; have := h.log (by decide); simp; omega, by simp [PyData.hasDict], by simp [PyData.depth], by simp [wt]⟩
theorem Gd.two {k m : Nat} {x y : PyData} (a : Gd k m x) (b : Gd k m y) : Gd (k + 1) (2 * m + 10) (.list [x, y]) := by
  have h1 := a.p
  have h2 := b.p
  have h3 := a.w
  have h4 := b.w
  refine ⟨?_, ?_, ?_, ?_⟩
  · simp [PyData.showable, PyData.showableAll, a.s, b.s]
  · simp [PyData.hasDict, PyData.hasDictAll, a.n, b.n]
  · simp only [PyData.depth, PyData.depthAll]; omega
  · simp only [wt, wtAll]; omega
theorem Gd.pair {k m : Nat} {x y : PyData} (a : Gd k m x) (b : Gd k m y) : Gd (k + 1) (2 * m + 10) (.tuple [x, y]) := by
  have h1 := a.p
  have h2 := b.p
  have h3 := a.w
  have h4 := b.w
  refine ⟨?_, ?_, ?_, ?_⟩
  · simp [PyData.showable, PyData.showableAll, a.s, b.s]
  · simp [PyData.hasDict, PyData.hasDictAll, a.n, b.n]
  · simp only [PyData.depth, PyData.depthAll]; omega
  · simp only [wt, wtAll]; omega
theorem Gd.number {m : Nat} (hm : 20 ≤ m) {k : Nat} {x : PyData} (a : Gd k m x) : Gd (k + 1) (2 * m + 10) (.list [.str "number", x]) :=
  Gd.two (Gd.mono (k := 0) (m := 20) ⟨by decide +kernel, by simp [PyData.hasDict], by simp [PyData.depth], by decide +kernel⟩ (Nat.zero_le _) hm) a
theorem pick {K : Frag} {H : Hp} {Pd : PyData → Prop} : ∀ {xs : List V} {ds : List PyData} {r : Int}, DpAll K H xs ds → 0 ≤ r → r < xs.length → (∀ d ∈ ds, Pd d) → ∃ v d, atI xs r = some v ∧ Dp K H v d ∧ Pd d := by
  intro xs ds r h h0 h1 hp
  have key : ∀ (xs : List V) (ds : List PyData) (n : Nat), DpAll K H xs ds → n < xs.length → ∃ v d, xs[n]? = some v ∧ Dp K H v d ∧ d ∈ ds := by
    intro xs
    induction xs with
    | nil => intro ds n _ z; cases z
    | cons x xs ih =>
      intro ds n h z
      cases h with
      | cons a b =>
        cases n with
        | zero => exact ⟨_, _, rfl, a, List.mem_cons_self⟩
        | succ n =>
          obtain ⟨v, d, h1, h2, h3⟩ := ih _ n b (by simpa using z)
          exact ⟨v, d, by simpa using h1, h2, List.mem_cons_of_mem _ h3⟩
  have e : ((r.toNat : Nat) : Int) = r := Int.toNat_of_nonneg h0
  have hn : r.toNat < xs.length := by omega
  obtain ⟨v, d, h1, h2, h3⟩ := key xs ds r.toNat h hn
  refine ⟨v, d, ?_, h2, hp d h3⟩
  have h : ixN xs.length r = some r.toNat := by
    unfold ixN
    rw [if_pos h0, if_pos (by omega)]
  unfold atI
  rw [h]
  exact h1
/-- what one carries over a new object -/
theorem Dp.new {K : Frag} {H : Hp} {p : Addr} {x : V} {d : PyData} (o : HO) (h : H p = none) (hd : Dp K H x d) : Dp K (upd H p o) x d := (Car.ex (Evl.Ex.new h)).d hd
theorem Dp.tupN {K : Frag} {H : Hp} {p : Addr} {vs : List V} {ds : List PyData} (h : H p = none) (hd : DpAll K H vs ds) : Dp K (upd H p (.tup vs)) (.ref p) (.tuple ds) := .tup (SqT.of upd_same) ((Car.ex (Evl.Ex.new h)).ds hd)
theorem Dp.lstN {K : Frag} {H : Hp} {p : Addr} {vs : List V} {ds : List PyData} (h : H p = none) (hd : DpAll K H vs ds) : Dp K (upd H p (.lst vs)) (.ref p) (.list ds) := .lst (SqL.of upd_same) ((Car.ex (Evl.Ex.new h)).ds hd)
theorem red_all {A B : Int} {m n : Nat} (hB : B ≠ 0) (bA : Bd m A) (bB : Bd n B) : ∃ t1 t2, red A B = (t1, t2) ∧ IsNum t1 t2 ∧ Bd m t1 ∧ Bd n t2 ∧ t1 * B = A * t2 := ⟨(red A B).1, (red A B).2, rfl, red_num hB, bA.red1 hB, bB.red2 hB, red_cross hB⟩
theorem floor_num {K : Frag} {C : Addr} {x : V} {p q : Int} {H : Hp} {Q : VK} {E : XK} (hx : NumAt K H x p q) (i : IsNum p q) (b : Bd 9000 q) (h : ∀ H', Ex H H' → Q (.int (p.fdiv q)) H') : spFloor K C [x] H Q E :=
  ⟨x, rfl, _, hx.d, (fun z => absurd (isNumD_is i) (by rw [z]; simp)), (fun p' q' e _ => by
    cases e
    exact ⟨b, h⟩)⟩
theorem sgn3_neg (a b : Int) : sgn3 b a = 0 - sgn3 a b := by unfold sgn3; omega
theorem due_in {σ : L2.St} {H : Hp} {Q : VK} {p q r s : Int} {n m k j : Nat} (h1 : σ[n]? = some (some (.int p))) (h2 : σ[m]? = some (some (.int q))) (h3 : σ[k]? = some (some (.int r))) (h4 : σ[j]? = some (some (.int s))) (c1 : CMulW p s) (c2 : CMulW q r) (h : Q (.int (sgn3 (p * s) (r * q))) H) :
    tIf (tTest (tOp rEq (tOp (rI CMulW fun i j => .int (i * j)) (tVar n) (tVar j)) (tOp (rI CMulW fun i j => .int (i * j)) (tVar m) (tVar k)))) (tC (.int 0))
      (tIf (tTest (tOp (rI0 fun i j => .bl (decide (i > j))) (tOp (rI CMulW fun i j => .int (i * j)) (tVar n) (tVar j)) (tOp (rI CMulW fun i j => .int (i * j)) (tVar m) (tVar k)))) (tC (.int 1)) (tOp (rI0 fun i j => .int (i - j)) (tC (.int 0)) (tC (.int 1)))) σ H Q := by
  refine ⟨_, h1, _, h4, _, _, rfl, rfl, c1, _, h2, _, h3, _, _, rfl, rfl, c2, rfl, _, rfl, iteB (fun g => ?_) (fun g => ?_)⟩
  · have e : p * s = q * r := V.int.inj (of_decide_eq_true g)
    have : sgn3 (p * s) (r * q) = 0 := by rw [e, Int.mul_comm r q]; unfold sgn3; omega
    rw [this] at h
    exact h
  · have e : p * s ≠ q * r := fun z => of_decide_eq_false g (congrArg V.int z)
    refine ⟨_, h1, _, h4, _, _, rfl, rfl, c1, _, h2, _, h3, _, _, rfl, rfl, c2, _, _, rfl, rfl, _, rfl, iteB (fun g => ?_) (fun g => ?_)⟩
    · have e : p * s > q * r := of_decide_eq_true g
      have : sgn3 (p * s) (r * q) = 1 := by rw [Int.mul_comm r q]; unfold sgn3; omega
      rw [this] at h
      exact h
    · have e : ¬ p * s > q * r := of_decide_eq_false g
      have : sgn3 (p * s) (r * q) = 0 - 1 := by rw [Int.mul_comm r q]; unfold sgn3; omega
      rw [this] at h
      exact ⟨_, _, rfl, rfl, h⟩
theorem fdiv_le {p q : Int} (h : 1 ≤ q) : p.fdiv q * q ≤ p ∧ p < (p.fdiv q + 1) * q := by
  rw [Int.fdiv_eq_ediv_of_nonneg _ (by omega)]
  exact ⟨Int.ediv_mul_le p (by omega), Int.lt_ediv_add_one_mul_self p (by omega)⟩
theorem fdiv_bd {n : Nat} {p q : Int} (h : 1 ≤ q) (b : Bd n p) : Bd n (p.fdiv q) := by
  obtain ⟨h1, h2⟩ := fdiv_le (p := p) h
  unfold Bd at *
  refine Nat.lt_of_le_of_lt ?_ b
  generalize p.fdiv q = l at h1 h2
  by_cases h0 : 0 ≤ l
  · have : l * 1 ≤ l * q := Int.mul_le_mul_of_nonneg_left h h0
    omega
  · have : (l + 1) * q ≤ (l + 1) * 1 := Int.mul_le_mul_of_nonpos_left (by omega) h
    omega
theorem sgn3_bd (a b : Int) : Bd 2 (sgn3 a b) := by unfold sgn3 Bd; split <;> split <;> decide
theorem bin_no {x y : V} {p q r s : Int} {C : V → Prop} (i1 : IsNum p q) (i2 : IsNum r s) : ∀ z, fb [x, y] [.tuple [.int p, .int q], .tuple [.int r, .int s]] = some z → C z := fun z e => by
  rw [fb_nums i1 i2] at e
  cases e
theorem bin_yes {p q r s : Int} {X : Int → Int → Int → Int → Prop} (b1 : Bd 4000 p) (b2 : Bd 4000 q) (b3 : Bd 4000 r) (b4 : Bd 4000 s) (h : X p q r s) :
    ∀ p' q' r' s', PyData.tuple [.int p, .int q] = .tuple [.int p', .int q'] → PyData.tuple [.int r, .int s] = .tuple [.int r', .int s'] → IsNum p' q' → IsNum r' s' → Bd 4000 p' ∧ Bd 4000 q' ∧ Bd 4000 r' ∧ Bd 4000 s' ∧ X p' q' r' s' := fun p' q' r' s' e1 e2 _ _ => by
  cases e1
  cases e2
  exact ⟨b1, b2, b3, b4, h⟩
theorem floor_no {p q : Int} {C : Prop} (i : IsNum p q) : isNumD (.tuple [.int p, .int q]) = false → C := fun z => absurd (isNumD_is i) (by rw [z]; simp)
theorem floor_yes {p q : Int} {X : Int → Int → Prop} (b : Bd 9000 q) (h : X p q) : ∀ p' q', PyData.tuple [.int p, .int q] = .tuple [.int p', .int q'] → IsNum p' q' → Bd 9000 q' ∧ X p' q' := fun p' q' e _ => by
  cases e
  exact ⟨b, h⟩
end Rm
/-! Numbers with bounds, and their texts. -/
namespace Rm
open PySem PySem.W PySem.Calls PyProof.Rows PySem.Spec L2
def isPosD : PyData → Bool
  | .tuple [.int a, .int b] => decide (IsNum a b) && decide (0 < a)
  | _ => false
def hasPartsD (d : PyData) (m n : Int) : Bool := match d with
  | .tuple [.int a, .int b] => decide (IsNum a b) && decide (0 < a) && decide (a ≤ m) && decide (b ≤ n)
  | _ => false
def isPaceD (d : PyData) : Bool := match d with
  | .tuple [.int a, .int b] => hasPartsD (.tuple [.int a, .int b]) 60 60 || (decide (IsNum a b) && decide (a = 0))
  | _ => false
theorem isPosD_no {d : PyData} (h : isNumD d = false) : isPosD d = false := by
  unfold isPosD
  split
  · have h3 : decide (IsNum _ _) = false := h
    rw [h3]
    rfl
  · rfl
theorem isPosD_is {a b : Int} (i : IsNum a b) : isPosD (.tuple [.int a, .int b]) = decide (0 < a) := by
  show (decide (IsNum a b) && decide (0 < a)) = _
  rw [decide_eq_true i, Bool.true_and]
theorem hasPartsD_no {d : PyData} {m n : Int} (h : isPosD d = false) : hasPartsD d m n = false := by
  unfold hasPartsD
  split
  · rename_i a b
    have h3 : (decide (IsNum a b) && decide (0 < a)) = false := h
    rw [h3]
    rfl
  · rfl
theorem hasPartsD_is {a b m n : Int} (i : IsNum a b) : hasPartsD (.tuple [.int a, .int b]) m n = (decide (0 < a) && decide (a ≤ m) && decide (b ≤ n)) := by
  show (decide (IsNum a b) && decide (0 < a) && decide (a ≤ m) && decide (b ≤ n)) = _
  rw [decide_eq_true i, Bool.true_and]
theorem isPaceD_no {d : PyData} (h : isNumD d = false) : isPaceD d = false := by
  have h2 := hasPartsD_no (m := 60) (n := 60) (isPosD_no h)
  unfold isPaceD
  split
  · have h3 : decide (IsNum _ _) = false := h
    rw [h3, h2]
    rfl
  · rfl
theorem isPaceD_is {a b : Int} (i : IsNum a b) : isPaceD (.tuple [.int a, .int b]) = (hasPartsD (.tuple [.int a, .int b]) 60 60 || decide (a = 0)) := by
  show (_ || (decide (IsNum a b) && decide (a = 0))) = _
  rw [decide_eq_true i, Bool.true_and]
theorem isPosD_inv {d : PyData} (h : isPosD d = true) : ∃ p q, d = .tuple [.int p, .int q] ∧ IsNum p q ∧ 0 < p := by
  unfold isPosD at h
  split at h
  · exact ⟨_, _, rfl, of_decide_eq_true (Bool.and_eq_true_iff.mp h).1, of_decide_eq_true (Bool.and_eq_true_iff.mp h).2⟩
  · cases h
theorem hasPartsD_1 {a b m n : Int} (i : IsNum a b) (h : 0 < a) (h1 : decide (a ≤ m) = true) : hasPartsD (.tuple [.int a, .int b]) m n = decide (b ≤ n) := by
  rw [hasPartsD_is i, decide_eq_true h, h1, Bool.true_and, Bool.true_and]
theorem hasPartsD_0 {a b m n : Int} (i : IsNum a b) (h : 0 < a) (h1 : decide (a ≤ m) = false) : hasPartsD (.tuple [.int a, .int b]) m n = false := by
  rw [hasPartsD_is i, decide_eq_true h, h1, Bool.true_and, Bool.false_and]
def spIsPos (K : Frag) : Sp := sp1 fun x H Q _ => ∃ d, Dp K H x d ∧ ∀ H', Ex H H' → Q (.bl (isPosD d)) H'
def spParts (K : Frag) : Sp := sp3 fun x y z H Q _ => ∃ d m n, Dp K H x d ∧ y = .int m ∧ z = .int n ∧ ∀ H', Ex H H' → Q (.bl (hasPartsD d m n)) H'
def spFactor (K : Frag) : Sp := sp1 fun x H Q _ => ∃ d, Dp K H x d ∧ ∀ H', Ex H H' → Q (.bl (hasPartsD d 60 60)) H'
def spLength (K : Frag) : Sp := sp1 fun x H Q _ => ∃ d, Dp K H x d ∧ ∀ H', Ex H H' → Q (.bl (hasPartsD d 999999 999)) H'
/-- thing is compared with ZERO: it must be data that == takes -/
def spPace (K : Frag) : Sp := sp1 fun x H Q _ => ∃ d, Dp K H x d ∧ ∀ H', Ex H H' → Q (.bl (isPaceD d)) H'
/-- the text of a number -/
def ntext (a b : Int) : Str := if b = 1 then (toString a : String) else Str.empty ++ (toString a : String) ++ ("/" : Str) ++ (toString b : String)
def spNumText (K : Frag) (C : Addr) : Sp := sp1 fun x H Q E => ∃ dx, Dp K H x dx ∧ (isNumD dx = false → RErr H E C "thing" x) ∧
  (∀ p q, dx = .tuple [.int p, .int q] → IsNum p q → p.natAbs.log2 < 1920 ∧ q.natAbs.log2 < 1920 ∧ ∀ H', Ex H H' → Q (.str (ntext p q)) H')
theorem eqv_zero {a b : Int} (i : IsNum a b) : PyData.eqv (.tuple [.int a, .int b]) (.tuple [.int 0, .int 1]) = decide (a = 0) := by
  rw [eqv_num]
  by_cases h : a = 0
  · have h1 := i.2
    have h2 := i.1
    subst h
    have : b = 1 := by
      unfold Int.gcd at h1
      simp at h1
      omega
    subst this
    rfl
  · rw [decide_eq_false h, Bool.false_and]
theorem int_len {i : Int} (h : i.natAbs.log2 < 1920) : (Str.ofString (toString i)).length ≤ 1921 := int_text_len_1921 h
theorem ntext_len {a b : Int} (h1 : a.natAbs.log2 < 1920) (h2 : b.natAbs.log2 < 1920) : (ntext a b).length ≤ 4000 := by
  have e1 := int_len h1
  have e2 := int_len h2
  have e3 : Str.empty.length = 0 := rfl
  have e4 : (Str.ofString "/").length = 1 := by decide
  unfold ntext
  split
  · omega
  · rw [Str.length_append, Str.length_append, Str.length_append]
    omega
theorem lst_inv {K : Frag} {H : Hp} {a : Addr} {ds : List PyData} (h : Dp K H (.ref a) (.list ds)) : ∃ vs, SqL K H a vs ∧ DpAll K H vs ds := by
  cases h with
  | lst a b => exact ⟨_, a, b⟩
theorem Gd.all {k m : Nat} : ∀ {ds : List PyData}, (∀ d ∈ ds, Gd k m d) → PyData.showableAll ds = true ∧ PyData.hasDictAll ds = false ∧ PyData.depthAll ds ≤ k ∧ wtAll ds ≤ ds.length * (m + 2)
  | [], _ => ⟨rfl, rfl, Nat.zero_le _, Nat.zero_le _⟩
  | d :: ds, h => by
    obtain ⟨h1, h2, h3, h4⟩ := Gd.all (ds := ds) (fun x hx => h x (List.mem_cons_of_mem _ hx))
    have g := h d List.mem_cons_self
    have gp := g.p
    have gw := g.w
    refine ⟨?_, ?_, ?_, ?_⟩
    · simp [PyData.showableAll, g.s, h1]
    · simp [PyData.hasDictAll, g.n, h2]
    · simp only [PyData.depthAll]; omega
    · simp only [wtAll, List.length_cons, Nat.add_mul]; omega
theorem Gd.tup {k m : Nat} {ds : List PyData} (h : ∀ d ∈ ds, Gd k m d) : Gd (k + 1) (ds.length * (m + 2) + 3) (.tuple ds) := by
  obtain ⟨h1, h2, h3, h4⟩ := Gd.all h
  exact ⟨h1, h2, by simp only [PyData.depth]; omega, by simp only [wt]; omega⟩
theorem Gd.lst {k m : Nat} {ds : List PyData} (h : ∀ d ∈ ds, Gd k m d) : Gd (k + 1) (ds.length * (m + 2) + 3) (.list ds) := by
  obtain ⟨h1, h2, h3, h4⟩ := Gd.all h
  exact ⟨h1, h2, by simp only [PyData.depth]; omega, by simp only [wt]; omega⟩
theorem Gd.bool {b : Bool} : Gd 0 5 (.bool b) := ⟨rfl, rfl, Nat.le_refl _, Nat.le_refl _⟩
theorem Gd.non : Gd 0 4 .none := ⟨rfl, rfl, Nat.le_refl _, Nat.le_refl _⟩
theorem Gd.str {x : Str} {m : Nat} (h : (reprText x).length ≤ m) : Gd 0 m (.str x) := ⟨rfl, rfl, Nat.le_refl _, h⟩
theorem DpAll.app {K : Frag} {H : Hp} : ∀ {vs ws : List V} {ds es : List PyData}, DpAll K H vs ds → DpAll K H ws es → DpAll K H (vs ++ ws) (ds ++ es)
  | [], _, [], _, .nil, h => h
  | _ :: _, _, _ :: _, _, .cons a b, h => .cons a (DpAll.app b h)
theorem Gd.num_log {k m : Nat} {p q : Int} (g : Gd k m (.tuple [.int p, .int q])) : p.natAbs.log2 < 1920 ∧ q.natAbs.log2 < 1920 := by
  have h := g.s
  simp only [PyData.showable, PyData.showableAll, Bool.and_true, Bool.and_eq_true, decide_eq_true_eq] at h
  exact h
def quotD (dx dy : PyData) : PyData := match dx, dy with
  | .int a, .int b => if b = 0 then .list [.str "number", .tuple [.int a, .int b]] else .list [.str "made", .tuple [.int (red a b).1, .int (red a b).2]]
  | dx, dy => .list [.str "number", .tuple [dx, dy]]
theorem quotD_no {dx dy : PyData} (h : ∀ a b, dx = .int a → dy = .int b → b = 0) : quotD dx dy = .list [.str "number", .tuple [dx, dy]] := by
  unfold quotD
  split
  · rw [if_pos (h _ _ rfl rfl)]
  · rfl
theorem quotD_is {a b : Int} (h : b ≠ 0) : quotD (.int a) (.int b) = .list [.str "made", .tuple [.int (red a b).1, .int (red a b).2]] := if_neg h
end Rm
namespace Rm
open PySem PySem.W PySem.Calls PyProof.Rows PySem.Spec L2
theorem strOk_of (s : String) : PyData.strOk (Str.ofString s) = true := by
  rw [Str.ofString_eq_toList]
  unfold PyData.strOk
  simp only [List.all_toArray, List.all_map, List.all_eq_true, Function.comp, decide_eq_true_eq]
  intro c _
  have h : c.val.toNat < 0xd800 ∨ (0xdfff < c.val.toNat ∧ c.val.toNat < 0x110000) := c.valid
  show c.val.toNat < 0x110000
  omega
theorem strOk_app {x y : Str} (h : PyData.strOk x = true) (k : PyData.strOk y = true) : PyData.strOk (x ++ y) = true := by
  unfold PyData.strOk at *
  show (x.cps ++ y.cps).all _ = true
  rw [Array.all_append, h, k]
  rfl
theorem strOk_num (a b : Int) : PyData.strOk (ntext a b) = true := by
  unfold ntext
  split
  · exact strOk_of _
  · exact strOk_app (strOk_app (strOk_app (by unfold PyData.strOk Str.empty; simp) (strOk_of _)) (strOk_of _)) (strOk_of _)
theorem shaped_ss {x y : Str} (h : PyData.strOk x = true) (k : PyData.strOk y = true) : SeqAt.shaped (.list [.str x, .str y]) = true := by
  simp [SeqAt.shaped, PyData.canLay0, PyData.canLayAll0, PyData.depth, PyData.depthAll, h, k]
theorem empty_app (x : Str) : Str.empty ++ x = x := by
  show (⟨Str.empty.cps ++ x.cps⟩ : Str) = x
  cases x
  simp [Str.empty]
theorem bd_of_log {n : Nat} {i : Int} (h : i.natAbs.log2 < n) : Bd n i := by
  unfold Bd
  by_cases h0 : i.natAbs = 0
  · rw [h0]; exact Nat.two_pow_pos n
  · exact (Nat.log2_lt h0).mp h
theorem quot_gd {dx dy : PyData} (g1 : Gd 1 4000 dx) (g2 : Gd 1 4000 dy) : Gd 100 16000000 (quotD dx dy) := by
  by_cases h : ∀ a b, dx = .int a → dy = .int b → b = 0
  · rw [quotD_no h]
    exact (Gd.number (by decide) (Gd.pair g1 g2)).mono (by decide) (by decide)
  · have ⟨a, b, e1, e2, hb⟩ : ∃ a b, dx = .int a ∧ dy = .int b ∧ b ≠ 0 := by
      apply Classical.byContradiction
      intro hn
      exact h fun a b e1 e2 => Classical.byContradiction fun hb => hn ⟨a, b, e1, e2, hb⟩
    subst e1 e2
    rw [quotD_is hb]
    have lg : ∀ {i : Int}, PyData.showable (.int i) = true → i.natAbs.log2 < 1920 := fun h => by simpa [PyData.showable] using h
    have k1 : Gd 0 1921 (.int (red a b).1) := ⟨by simp only [PyData.showable, decide_eq_true_eq]; exact PySem.Flt.log2_lt_of (by decide) ((bd_of_log (lg g1.s)).red1 hb), rfl, Nat.le_refl _, Nat.le_refl _⟩
    have k2 : Gd 0 1921 (.int (red a b).2) := ⟨by simp only [PyData.showable, decide_eq_true_eq]; exact PySem.Flt.log2_lt_of (by decide) ((bd_of_log (lg g2.s)).red2 hb), rfl, Nat.le_refl _, Nat.le_refl _⟩
    exact (Gd.two (k := 1) (m := 4000) (Gd.mono (k := 0) (m := 20) ⟨rfl, rfl, Nat.le_refl _, by decide +kernel⟩ (by decide) (by decide)) ((Gd.pair k1 k2).mono (by decide) (by decide))).mono (by decide) (by decide)
theorem SqL_new {K : Frag} {H : Hp} {p : Addr} {vs : List V} (h : H p = none) : SqL K (upd H p (.lst vs)) p vs := SqL.of upd_same
def rTx : List V → Hp → VK → Prop := fun xs H Q => ∃ i : Int, xs = [.int i] ∧ i.natAbs.log2 < 1920 ∧ Q (.str (Str.ofString (toString i))) H
def rAs : R2 := fun x y H Q => ∃ i j, x = .str i ∧ y = .str j ∧ i.length + j.length ≤ sizeLine ∧ Q (.str (i ++ j)) H
theorem text_in {K : Frag} {σ : L2.St} {H : Hp} {Q : VK} {a : Addr} {p q : Int} {n : Nat} (h : σ[n]? = some (some (.ref a))) (ha : SqT K H a [.int p, .int q]) (l1 : p.natAbs.log2 < 1920) (l2 : q.natAbs.log2 < 1920) (hQ : Q (.str (ntext p q)) H) :
    tIf (tTest (tOp rEq (tOp (rIxT K) (tVar n) (tC (.int 1))) (tC (.int 1)))) (tCB rTx (tCons (tOp (rIxT K) (tVar n) (tC (.int 0))) tNil))
      (tOp rAs (tOp rAs (tCB rTx (tCons (tOp (rIxT K) (tVar n) (tC (.int 0))) tNil)) (tC (.str "/"))) (tCB rTx (tCons (tOp (rIxT K) (tVar n) (tC (.int 1))) tNil))) σ H Q := by
  refine ⟨_, h, _, _, _, _, rfl, rfl, ha, rfl, rfl, _, rfl, iteB (fun c => ?_) (fun c => ?_)⟩
  · have h1 : q = 1 := V.int.inj (of_decide_eq_true c)
    have et : ntext p q = Str.ofString (toString p) := if_pos h1
    rw [et] at hQ
    exact ⟨_, h, _, _, _, _, rfl, rfl, ha, rfl, _, rfl, l1, hQ⟩
  · have h1 : ¬ q = 1 := fun z => of_decide_eq_false c (by rw [z])
    have et : ntext p q = Str.empty ++ Str.ofString (toString p) ++ Str.ofString "/" ++ Str.ofString (toString q) := if_neg h1
    rw [et, empty_app] at hQ
    have e1 := int_len l1
    have e2 := int_len l2
    have e4 : (Str.ofString "/").length = 1 := by decide
    exact ⟨_, h, _, _, _, _, rfl, rfl, ha, rfl, _, rfl, l1, _, _, rfl, rfl, by rw [sizeLine_eq]; omega, _, h, _, _, _, _, rfl, rfl, ha, rfl, _, rfl, l2, _, _, rfl, rfl, by rw [Str.length_append, sizeLine_eq]; omega, hQ⟩
theorem tup2_inv {K : Frag} {H : Hp} {t : Addr} {d1 d2 : PyData} (h : Dp K H (.ref t) (.tuple [d1, d2])) : ∃ u v, SqT K H t [u, v] ∧ Dp K H u d1 ∧ Dp K H v d2 := by
  cases h with
  | tup a b =>
    cases b with
    | cons h1 b =>
      cases b with
      | cons h2 b =>
        cases b
        exact ⟨_, _, a, h1, h2⟩
end Rm
/-! first, *rest = a tuple. -/
namespace Rm
open PySem PySem.W PySem.Calls PyProof.Rows PySem.Spec L2
section
variable {prog : Program} {w : World} {A : Around} {E : Value → Shared → Prop} {s : Shared}
/-- one in front, the others into a new list -/
theorem head_rest {l : Addr} {x : Value} {r : List Value} {Q : List Value → Shared → Prop} (hl : IsTup s.heap l (x :: r).toArray) (hh : A.handled = none) (hz : r.length ≤ 1000)
    (h : ∀ (h₂ : Heap) (tk : Nat), (∀ b o, s.heap.get? b = some o → h₂.get? b = some o) → Q [x, .ref h₂.objs.size] { s with heap := h₂.push { cls := .type "list", data := .seq r.toArray }, toks := tk }) :
    wpAny (model prog w) A (unpackItems (.ref l) 2 (some 1)) Q E s := by
  obtain ⟨o, ho, hc⟩ := id hl
  have lt : l < s.heap.objs.size := Heap.lt_size ho
  have ne : l ≠ s.heap.objs.size := Nat.ne_of_lt lt
  have sz : (x :: r).toArray.size = r.length + 1 := by simp
  have tl : (x :: r).toArray.toList.drop 1 = r := rfl
  have zl := sizeLine_eq
  unfold unpackItems notIterableAtAll
  refine wpAny_bind (wpAny_bind (wpAny_specialOf hl.typeIs slot_tuple_iter.lookup (wpAny_pure ?_)))
  simp only [Bool.false_eq_true, if_false]
  refine wpAny_bind (wpAny_holding (iter_tuple hl (wpAny_bind (wpAny_holding (draw_tuple ne 1 0 _ _ ⟨_, Heap.get?_push_size _ rfl, rfl, rfl⟩ (hl.push _) (by omega) fun h₁ hi k₁ => ?_)))))
  have lt₁ : IsTup h₁ l (x :: r).toArray := (hl.push _).extBut k₁.extBut ne
  obtain ⟨oi, eoi, _⟩ := id hi
  obtain ⟨ol, eol, _⟩ := id lt₁
  show wpAny _ _ (if [x].length < 1 then _ else _) _ _ _
  rw [if_neg (by simp)]
  refine wpAny_bind (wpAny_holding (kun_collect (s := { s with heap := h₁ }) (T := "tuple_iterator") (.inr (.inr (.inr rfl))) (Walks.tuple (A := A.in1) hh s.heap.objs.size l ne (x :: r).toArray) (fun j u st => st.1.typeIs) (k := 1) (by omega) ⟨hi, lt₁⟩ (Heap.lt_size eoi) (Heap.lt_size eol) (fun h₂ tk k₂ => ?_) (by rw [sz]; omega)))
  rw [tl]
  show wpAny _ _ (if r.length < 2 - 1 - 1 then _ else _) _ _ _
  rw [if_neg (by omega)]
  show wpAny _ _ (newList (r.take (r.length - (2 - 1 - 1))) >>= fun d => pure ([x] ++ [d] ++ r.drop (r.length - (2 - 1 - 1)))) _ _ _
  have e0 : r.length - (2 - 1 - 1) = r.length := by omega
  rw [e0, List.take_length, List.drop_length]
  have kp : ∀ b u, s.heap.get? b = some u → h₂.get? b = some u := fun b u e => by
    have nb : b ≠ s.heap.objs.size := Nat.ne_of_lt (Heap.lt_size e)
    exact k₂ b u nb (k₁.extBut b u nb (Heap.get?_push_of_some _ e))
  exact wpAny_bind (wpAny_newList (s := { s with heap := h₂, toks := tk }) (wpAny_pure (h h₂ tk kp)) (by omega))
end
section
variable {X : Cx}
theorem pgs_star {e : Expr} {es : List Expr} {t : TG} {u : TGs} {p : Pos} (h1 : PG X e t) (h2 : PGs X es u)
    (hs : (assignEach (.Starred e p :: es) X.env).map (·.2) = assign e X.env :: (assignEach es X.env).map (·.2) := by rfl) : PGs X (.Starred e p :: es) (gCons t u) := by
  refine ⟨fun pins s σ H vs us Q I r h => ?_⟩
  obtain ⟨v, vr, rfl, h⟩ := h
  cases r with
  | cons r rr =>
    rw [hs]
    exact assignInOrder_cons (thn (h1.run pins s σ H _ _ _ I r h) fun _ s1 ⟨σ1, H1, I1, q1⟩ => h2.run pins s1 σ1 H1 _ _ Q I1 rr q1)
/-- a, *b = t -/
def gStar (K : Frag) (t : TGs) : TG := fun v σ H Q => ∃ a x xs, v = .ref a ∧ SqT K H a (x :: xs) ∧ xs.length ≤ 1000 ∧ ∀ D, H D = none → t [x, .ref D] σ (upd H D (.lst xs)) Q
theorem pg_star {es : List Expr} {k : Nat} {t : TGs} {pos : Pos} (hc : X.calm = true) (h : PGs X es t)
    (hn : (assignEach es X.env).length = 2 := by rfl) (hst : (assignEach es X.env).findIdx? (·.1) = some 1 := by rfl) : PG X (.Tuple es k pos) (gStar X.K t) := by
  refine ⟨fun pins s σ H v u Q I r hw => ?_⟩
  obtain ⟨a, x, xs, rfl, hq, hl, hw⟩ := hw
  cases r
  obtain ⟨its, rv, ht, hz⟩ := I.tuple hq
  cases rv with
  | @cons _ y _ ys r1 rr =>
    rw [assign_Tuple]
    refine wpAny_bind (wpAny_standAt ?_)
    unfold unpack
    rw [hn, hst]
    have hl' : ys.length ≤ 1000 := by rw [← rr.length]; exact hl
    refine wpAny_bind (wpAny_holding (head_rest ht (I.ok.hd hc) hl' fun h₂ tk kp => ?_))
    have I2 : Inv X pins σ H { s with heap := h₂, toks := tk } := I.kept (t' := tk) kp
    exact h.run pins _ σ _ [x, .ref h₂.objs.size] _ Q (I2.lnew (t' := tk) rr (by rw [sizeLine_eq]; omega)) (.cons r1 (.cons rfl .nil)) (hw _ I2.fresh)
end
end Rm
/-! Plain law: measures and multiples over a common denominator. -/
namespace Rm
/-- p/q is a/N -/
structure On (N : Nat) (x : Int × Int) (a : Nat) : Prop where
  i : IsNum x.1 x.2
  n : 0 < N
  ap : 0 < a
  e : x.1 * (N : Int) = (a : Int) * x.2
section
variable {N : Nat} {x y : Int × Int} {a b : Nat}
theorem On.q (h : On N x a) : (0 : Int) < x.2 := h.i.1
theorem On.p (h : On N x a) : (0 : Int) < x.1 := by
  have h1 : (0 : Int) < (a : Int) * x.2 := Int.mul_pos (by have := h.ap; omega) h.q
  rw [← h.e] at h1
  exact Int.pos_of_mul_pos_left h1 (by have := h.n; omega)
theorem mulC {u v w : Int} (hw : w ≠ 0) (h : u * w = v * w) : u = v := Int.eq_of_mul_eq_mul_right hw h
theorem On.ext (h : On N x a) (k : On N y a) : x = y := by
  have hn : (N : Int) ≠ 0 := by have := h.n; omega
  have e : x.1 * y.2 = y.1 * x.2 := by
    refine mulC hn ?_
    have h1 := h.e
    have h2 := k.e
    grind
  obtain ⟨e1, e2⟩ := num_ext h.i k.i e
  exact Prod.ext e1 e2
theorem On.of_red {A B : Int} (hB : 0 < B) (n : 0 < N) (ha : 0 < a) (e : A * (N : Int) = (a : Int) * B) : On N (red A B) a := by
  have hB0 : B ≠ 0 := by omega
  refine ⟨red_num hB0, n, ha, mulC hB0 ?_⟩
  have c := red_cross (a := A) hB0
  grind
def meas (x y : Int × Int) : Int × Int := red (Int.gcd (x.1 * y.2) (y.1 * x.2) : Nat) (x.2 * y.2)
def lmul (x y : Int × Int) : Int × Int := red ((red (x.1 * y.1) (x.2 * y.2)).1 * (meas x y).2) ((red (x.1 * y.1) (x.2 * y.2)).2 * (meas x y).1)
theorem On.meas (h : On N x a) (k : On N y b) : On N (meas x y) (Nat.gcd a b) := by
  refine On.of_red (Int.mul_pos h.q k.q) h.n (Nat.gcd_pos_of_pos_left _ h.ap) ?_
  have h1 := h.e
  have h2 := k.e
  have hq := h.q
  have kq := k.q
  have e1 : x.1 * y.2 * (N : Int) = (a : Int) * (x.2 * y.2) := by grind
  have e2 : y.1 * x.2 * (N : Int) = (b : Int) * (x.2 * y.2) := by grind
  have m1 : Int.gcd (x.1 * y.2) (y.1 * x.2) * N = Int.gcd (x.1 * y.2 * (N : Int)) (y.1 * x.2 * (N : Int)) := by
    rw [Int.gcd_mul_right]
    simp
  have m2 : Int.gcd ((a : Int) * (x.2 * y.2)) (b * (x.2 * y.2)) = Nat.gcd a b * (x.2 * y.2).natAbs := by
    rw [Int.gcd_mul_right]
    simp
  have hpos : (0 : Int) < x.2 * y.2 := Int.mul_pos hq kq
  have m3 : Int.gcd (x.1 * y.2) (y.1 * x.2) * N = Nat.gcd a b * (x.2 * y.2).natAbs := by rw [m1, e1, e2, m2]
  have m4 : ((Int.gcd (x.1 * y.2) (y.1 * x.2) * N : Nat) : Int) = ((Nat.gcd a b * (x.2 * y.2).natAbs : Nat) : Int) := by rw [m3]
  rw [Int.natCast_mul, Int.natCast_mul] at m4
  rw [m4]
  congr 1
  omega
theorem On.lmul (h : On N x a) (k : On N y b) : On N (lmul x y) (Nat.lcm a b) := by
  have m := h.meas k
  have t0 : x.2 * y.2 ≠ 0 := Int.ne_of_gt (Int.mul_pos h.q k.q)
  have tn := red_num (a := x.1 * y.1) t0
  have tc := red_cross (a := x.1 * y.1) t0
  have lp : 0 < Nat.lcm a b := Nat.lcm_pos h.ap k.ap
  refine On.of_red (Int.mul_pos tn.1 m.p) h.n lp ?_
  have h1 := h.e
  have h2 := k.e
  have h3 := m.e
  have gl : (Nat.gcd a b : Int) * Nat.lcm a b = (a : Int) * b := by
    have := Nat.gcd_mul_lcm a b
    rw [← Int.natCast_mul, this, Int.natCast_mul]
  generalize red (x.1 * y.1) (x.2 * y.2) = t at *
  generalize Rm.meas x y = m' at *
  have hn : (N : Int) ≠ 0 := by have := h.n; omega
  have hg : (Nat.gcd a b : Int) ≠ 0 := by have := Nat.gcd_pos_of_pos_left b h.ap; omega
  have hm : m'.2 ≠ 0 := Int.ne_of_gt m.q
  -- t.1 * q s = p r t.2 ; both sides by N and by q s
  refine mulC hn (mulC t0 ?_)
  have s1 : t.1 * (x.2 * y.2) * ((N : Int) * N) = x.1 * N * (y.1 * N) * t.2 := by grind
  have s2 : t.1 * (x.2 * y.2) * ((N : Int) * N) = (a : Int) * b * (x.2 * y.2) * t.2 := by rw [s1, h1, h2]; grind
  have s3 : t.1 * ((N : Int) * N) = (a : Int) * b * t.2 := mulC t0 (by grind)
  grind
end
inductive OnL (N : Nat) : List (Int × Int) → List Nat → Prop where
  | nil : OnL N [] []
  | cons {x : Int × Int} {a : Nat} {xs : List (Int × Int)} {as : List Nat} (h : On N x a) (r : OnL N xs as) : OnL N (x :: xs) (a :: as)
section
variable {N : Nat} {x y : Int × Int} {a b : Nat} {xs ys : List (Int × Int)} {as bs : List Nat}
theorem OnL.meas (r : OnL N xs as) : ∀ {x : Int × Int} {a : Nat}, On N x a → On N (xs.foldl Rm.meas x) (as.foldl Nat.gcd a) := by
  induction r with
  | nil => intro x a h; exact h
  | cons h r ih => intro x a k; exact ih (k.meas h)
theorem OnL.lmul (r : OnL N xs as) : ∀ {x : Int × Int} {a : Nat}, On N x a → On N (xs.foldl Rm.lmul x) (as.foldl Nat.lcm a) := by
  induction r with
  | nil => intro x a h; exact h
  | cons h r ih => intro x a k; exact ih (k.lmul h)
theorem On.scale (h : On N x a) {k : Nat} (hk : 0 < k) : On (k * N) x (k * a) :=
  ⟨h.i, Nat.mul_pos hk h.n, Nat.mul_pos hk h.ap, by have := h.e; rw [Int.natCast_mul, Int.natCast_mul]; grind⟩
theorem OnL.scale (r : OnL N xs as) {k : Nat} (hk : 0 < k) : OnL (k * N) xs (as.map (k * ·)) := by
  induction r with
  | nil => exact .nil
  | cons h r ih => exact .cons (h.scale hk) ih
theorem OnL.some : ∀ xs : List (Int × Int), (∀ x ∈ xs, IsNum x.1 x.2 ∧ 0 < x.1) → ∃ N as, 0 < N ∧ OnL N xs as
  | [], _ => ⟨1, [], by decide, .nil⟩
  | x :: xs, h => by
    obtain ⟨N, as, hn, r⟩ := OnL.some xs fun y hy => h y (List.mem_cons_of_mem _ hy)
    obtain ⟨i, hp⟩ := h x List.mem_cons_self
    have hq : 0 < x.2.toNat := by have := i.1; omega
    have e1 : ((x.2.toNat : Nat) : Int) = x.2 := Int.toNat_of_nonneg (by have := i.1; omega)
    have e2 : ((x.1.toNat : Nat) : Int) = x.1 := Int.toNat_of_nonneg (by omega)
    refine ⟨x.2.toNat * N, x.1.toNat * N :: as.map (x.2.toNat * ·), Nat.mul_pos hq hn, .cons ⟨i, Nat.mul_pos hq hn, Nat.mul_pos (by omega) hn, ?_⟩ (r.scale hq)⟩
    rw [Int.natCast_mul, Int.natCast_mul, e1, e2]
    grind
theorem OnL.mem (r : OnL N xs as) (h : x ∈ xs) : ∃ a ∈ as, On N x a := by
  induction r with
  | nil => cases h
  | cons k r ih =>
    rcases List.mem_cons.mp h with rfl | h
    · exact ⟨_, List.mem_cons_self, k⟩
    · obtain ⟨a, h1, h2⟩ := ih h
      exact ⟨a, List.mem_cons_of_mem _ h1, h2⟩
/-! whole numbers -/
theorem gcdF_dvd : ∀ (as : List Nat) (a b : Nat), b ∈ a :: as → as.foldl Nat.gcd a ∣ b
  | [], a, b, h => by simp at h; subst h; exact Nat.dvd_refl _
  | c :: as, a, b, h => by
    have k := gcdF_dvd as (Nat.gcd a c) (Nat.gcd a c) List.mem_cons_self
    rcases List.mem_cons.mp h with rfl | h
    · exact Nat.dvd_trans k (Nat.gcd_dvd_left _ _)
    · rcases List.mem_cons.mp h with rfl | h
      · exact Nat.dvd_trans k (Nat.gcd_dvd_right _ _)
      · exact gcdF_dvd as _ _ (List.mem_cons_of_mem _ h)
theorem dvd_gcdF : ∀ (as : List Nat) (a d : Nat), (∀ b ∈ a :: as, d ∣ b) → d ∣ as.foldl Nat.gcd a
  | [], a, d, h => h a List.mem_cons_self
  | c :: as, a, d, h => dvd_gcdF as _ d fun b hb => by
    rcases List.mem_cons.mp hb with rfl | hb
    · exact Nat.dvd_gcd (h a List.mem_cons_self) (h c (List.mem_cons_of_mem _ List.mem_cons_self))
    · exact h b (List.mem_cons_of_mem _ (List.mem_cons_of_mem _ hb))
theorem dvd_lcmF : ∀ (as : List Nat) (a b : Nat), b ∈ a :: as → b ∣ as.foldl Nat.lcm a
  | [], a, b, h => by simp at h; subst h; exact Nat.dvd_refl _
  | c :: as, a, b, h => by
    have k := dvd_lcmF as (Nat.lcm a c) (Nat.lcm a c) List.mem_cons_self
    rcases List.mem_cons.mp h with rfl | h
    · exact Nat.dvd_trans (Nat.dvd_lcm_left _ _) k
    · rcases List.mem_cons.mp h with rfl | h
      · exact Nat.dvd_trans (Nat.dvd_lcm_right _ _) k
      · exact dvd_lcmF as _ _ (List.mem_cons_of_mem _ h)
theorem lcmF_dvd : ∀ (as : List Nat) (a d : Nat), (∀ b ∈ a :: as, b ∣ d) → as.foldl Nat.lcm a ∣ d
  | [], a, d, h => h a List.mem_cons_self
  | c :: as, a, d, h => lcmF_dvd as _ d fun b hb => by
    rcases List.mem_cons.mp hb with rfl | hb
    · exact Nat.lcm_dvd (h a List.mem_cons_self) (h c (List.mem_cons_of_mem _ List.mem_cons_self))
    · exact h b (List.mem_cons_of_mem _ (List.mem_cons_of_mem _ hb))
theorem gcdF_same (h : ∀ c, c ∈ a :: as ↔ c ∈ b :: bs) : as.foldl Nat.gcd a = bs.foldl Nat.gcd b :=
  Nat.dvd_antisymm (dvd_gcdF _ _ _ fun c hc => gcdF_dvd _ _ _ ((h c).mpr hc)) (dvd_gcdF _ _ _ fun c hc => gcdF_dvd _ _ _ ((h c).mp hc))
theorem lcmF_same (h : ∀ c, c ∈ a :: as ↔ c ∈ b :: bs) : as.foldl Nat.lcm a = bs.foldl Nat.lcm b :=
  Nat.dvd_antisymm (lcmF_dvd _ _ _ fun c hc => dvd_lcmF _ _ _ ((h c).mp hc)) (lcmF_dvd _ _ _ fun c hc => dvd_lcmF _ _ _ ((h c).mpr hc))
theorem gcdF_mul (k : Nat) : ∀ (as : List Nat) (a : Nat), (as.map (k * ·)).foldl Nat.gcd (k * a) = k * as.foldl Nat.gcd a
  | [], _ => rfl
  | c :: as, a => by
    show (as.map (k * ·)).foldl Nat.gcd (Nat.gcd (k * a) (k * c)) = _
    rw [Nat.gcd_mul_left]
    exact gcdF_mul k as _
theorem lcmF_mul (k : Nat) : ∀ (as : List Nat) (a : Nat), (as.map (k * ·)).foldl Nat.lcm (k * a) = k * as.foldl Nat.lcm a
  | [], _ => rfl
  | c :: as, a => by
    show (as.map (k * ·)).foldl Nat.lcm (Nat.lcm (k * a) (k * c)) = _
    rw [Nat.lcm_mul_left]
    exact lcmF_mul k as _
/-- the law's own way: from 0, the new one in front -/
def gcdR (qs : List Nat) : Nat := qs.foldl (fun f a => Nat.gcd a f) 0
theorem gcdR_dvd : ∀ (qs : List Nat) (f q : Nat), (q = f ∨ q ∈ qs) → qs.foldl (fun f a => Nat.gcd a f) f ∣ q
  | [], f, q, h => by
    rcases h with rfl | h
    · exact Nat.dvd_refl _
    · cases h
  | c :: qs, f, q, h => by
    have k := gcdR_dvd qs (Nat.gcd c f) (Nat.gcd c f) (.inl rfl)
    rcases h with rfl | h
    · exact Nat.dvd_trans k (Nat.gcd_dvd_right _ _)
    · rcases List.mem_cons.mp h with rfl | h
      · exact Nat.dvd_trans k (Nat.gcd_dvd_left _ _)
      · exact gcdR_dvd qs _ _ (.inr h)
theorem coprime_below {g : Nat} (hg : g = as.foldl Nat.gcd a) (ha : 0 < a) : gcdR ((a :: as).map (· / g)) = 1 := by
  have hgp : 0 < g := Nat.pos_of_dvd_of_pos (by rw [hg]; exact gcdF_dvd _ _ _ List.mem_cons_self) ha
  have h : gcdR ((a :: as).map (· / g)) * g ∣ g := by
    have : ∀ b ∈ a :: as, gcdR ((a :: as).map (· / g)) * g ∣ b := fun b hb => by
      have h1 : gcdR ((a :: as).map (· / g)) ∣ b / g := gcdR_dvd _ _ _ (.inr (List.mem_map.mpr ⟨b, hb, rfl⟩))
      have h2 : g ∣ b := by rw [hg]; exact gcdF_dvd _ _ _ hb
      have := Nat.mul_dvd_mul_right h1 g
      rwa [Nat.div_mul_cancel h2] at this
    have k := dvd_gcdF _ _ _ this
    rwa [← hg] at k
  have := Nat.le_of_dvd hgp h
  have h0 : gcdR ((a :: as).map (· / g)) ≠ 0 := fun z => by rw [z, Nat.zero_mul] at h; have := Nat.eq_zero_of_zero_dvd h; omega
  have : gcdR ((a :: as).map (· / g)) * g ≤ 1 * g := by omega
  have := Nat.le_of_mul_le_mul_right this hgp
  omega
theorem coprime_above {L : Nat} (hL : L = as.foldl Nat.lcm a) (hp : 0 < L) : gcdR ((a :: as).map (L / ·)) = 1 := by
  have hd : ∀ b ∈ a :: as, b ∣ L := fun b hb => by rw [hL]; exact dvd_lcmF _ _ _ hb
  have hk : gcdR ((a :: as).map (L / ·)) ∣ L := by
    have h1 : gcdR ((a :: as).map (L / ·)) ∣ L / a := gcdR_dvd _ _ _ (.inr (List.mem_map.mpr ⟨a, List.mem_cons_self, rfl⟩))
    exact Nat.dvd_trans h1 (Nat.div_dvd_of_dvd (hd a List.mem_cons_self))
  generalize hf : gcdR ((a :: as).map (L / ·)) = f at *
  have h0 : f ≠ 0 := fun z => by rw [z] at hk; have := Nat.eq_zero_of_zero_dvd hk; omega
  have hlow : L ∣ L / f := by
    have : ∀ b ∈ a :: as, b ∣ L / f := fun b hb => by
      have h1 : f ∣ L / b := by rw [← hf]; exact gcdR_dvd _ _ _ (.inr (List.mem_map.mpr ⟨b, hb, rfl⟩))
      obtain ⟨c, hc⟩ := h1
      have hb' := hd b hb
      have e : L = b * (f * c) := by rw [← hc, Nat.mul_div_cancel' hb']
      exact ⟨c, by rw [e]; rw [show b * (f * c) = (b * c) * f by rw [Nat.mul_comm f c, Nat.mul_assoc]]; exact Nat.mul_div_cancel _ (by omega)⟩
    have k := lcmF_dvd _ _ _ this
    rwa [← hL] at k
  have h1 : L ≤ L / f := Nat.le_of_dvd (Nat.div_pos (Nat.le_of_dvd hp hk) (by omega)) hlow
  have h2 := Nat.div_mul_le_self L f
  by_cases h3 : f = 1
  · exact h3
  · have : 2 ≤ f := by omega
    have : L * 2 ≤ L / f * f := Nat.mul_le_mul h1 this
    omega
theorem On.quot (h : On N x a) (k : On N y b) (d : b ∣ a) : red (x.1 * y.2) (x.2 * y.1) = (((a / b : Nat) : Int), 1) := by
  have hp : (0 : Int) < x.2 * y.1 := Int.mul_pos h.q k.p
  refine red_eq (Int.ne_of_gt hp) ⟨by decide, by simp [Int.gcd]⟩ ?_
  have hn : (N : Int) ≠ 0 := by have := h.n; omega
  have e : (((a / b : Nat) : Int)) * b = a := by rw [← Int.natCast_mul, Nat.div_mul_cancel d]
  have h1 := h.e
  have h2 := k.e
  refine mulC hn ?_
  generalize ((a / b : Nat) : Int) = c at *
  grind
theorem On.times (h : On N x a) {c e : Nat} (hc : 0 < c) (he : 0 < e) : On (e * N) (red (x.1 * c) (x.2 * e)) (c * a) := by
  refine On.of_red (Int.mul_pos h.q (by omega)) (Nat.mul_pos he h.n) (Nat.mul_pos hc h.ap) ?_
  have := h.e
  rw [Int.natCast_mul, Int.natCast_mul]
  grind
theorem red_congr {A B C D : Int} (hB : B ≠ 0) (hD : D ≠ 0) (e : A * D = C * B) : red A B = red C D := by
  have c := red_cross (a := C) hD
  have i := red_num (a := C) hD
  generalize red C D = t at *
  obtain ⟨u, v⟩ := t
  simp only at c i
  refine red_eq hB i (mulC hD ?_)
  clear i
  grind
end
end Rm
/-! Comprehensions whose items are new objects. -/
namespace Rm
open PySem PySem.W PySem.Calls PyProof.Rows PySem.Spec L2
theorem Exb.get {D : Addr} {H H' : Hp} {p : Addr} {o : HO} (e : Exb D H H') (h : H p = some o) (n : p ≠ D) : H' p = some o := e p o n h
/-- the list so far, each item an object of its own -/
def Lcs (D : Addr) (o : Nat → HO) (H1 : Hp) (i : Nat) (H : Hp) : Prop := ∃ acc : List V, H D = some (.lst acc) ∧ acc.length = i ∧ (∀ k, k < i → ∃ p, acc[k]? = some (.ref p) ∧ p ≠ D ∧ H p = some (o k)) ∧ Ex H1 H
theorem Lcs.start {D : Addr} {o : Nat → HO} {H1 : Hp} (hD : H1 D = none) : Lcs D o H1 0 (upd H1 D (.lst [])) := ⟨[], upd_same, rfl, fun k hk => absurd hk (Nat.not_lt_zero _), Evl.Ex.new hD⟩
theorem Lcs.step {D : Addr} {o : Nat → HO} {H1 H H4 : Hp} {i : Nat} {p : Addr} (hD : H1 D = none) (hi : i < 1000) (h : Lcs D o H1 i H) (hp : H p = none) (h4 : H4 p = some (o i)) (e : Ex H H4) :
    ∃ acc, H4 D = some (.lst acc) ∧ acc.length < sizeLine ∧ Lcs D o H1 (i + 1) (upd H4 D (.lst (acc ++ [.ref p]))) := by
  obtain ⟨acc, h1, h2, h3, h5⟩ := h
  have pD : p ≠ D := fun z => by rw [z, h1] at hp; cases hp
  refine ⟨acc, e _ _ h1, by rw [sizeLine_eq]; omega, acc ++ [.ref p], upd_same, by rw [List.length_append]; simp [h2], fun k hk => ?_, fun a u ha => ?_⟩
  · by_cases hk' : k < i
    · obtain ⟨q, q1, q2, q3⟩ := h3 k hk'
      exact ⟨q, by rw [List.getElem?_append_left (by omega)]; exact q1, q2, by rw [upd_ne q2]; exact e _ _ q3⟩
    · have : k = i := by omega
      subst this
      exact ⟨p, by rw [List.getElem?_append_right (by omega), h2]; simp, pD, by rw [upd_ne pD]; exact h4⟩
  · have aD : a ≠ D := ne_of_none ha hD
    rw [upd_ne aD]
    exact e _ _ (h5 _ _ ha)
theorem wipe_set {σ : L2.St} {j : Nat} {x : Option V} : wipe ((wipe σ [j]).set j x) [j] = wipe σ [j] := by
  show (((σ.set j none).set j x).set j none) = σ.set j none
  rw [List.set_set, List.set_set]
theorem lc_objs {K : Frag} {te : TE} {j : Nat} {σ : L2.St} {H1 : Hp} {a D : Addr} {xs : List V} {Qd : Hp → Prop} (o : Nat → HO) (ha : SqL K H1 a xs) (hl : xs.length ≤ 1000) (hD : H1 D = none)
    (hs : ∀ i x Hc (R : VK), xs[i]? = some x → Ex H1 Hc → (∀ p H4, Hc p = none → Ex Hc H4 → H4 p = some (o i) → R (.ref p) H4) → te ((wipe σ [j]).set j (some x)) Hc R)
    (hd : ∀ Hc, Lcs D o H1 xs.length Hc → Qd Hc) :
    ∃ W : Nat → Nat → Hp → Prop, (∃ m, W 0 m (upd H1 D (.lst []))) ∧ ∀ i m H, W i m H →
      ((Itl K a).stop i H ∧ Qd H) ∨ ((Itl K a).go i H ∧ ∃ Nx : Hp → Prop, (∀ H', Nx H' → ∃ m', m' < m ∧ W (i + 1) m' H') ∧ ∀ x H', (Itl K a).yld i H x H' → gName j x (wipe σ [j]) H' fun σ2 H2 => wipe σ2 [j] = wipe σ [j] ∧ tYes σ2 H2 fun b H3 =>
        if b = true then te σ2 H3 fun y H4 => ∃ acc, H4 D = some (.lst acc) ∧ acc.length < sizeLine ∧ Nx (upd H4 D (.lst (acc ++ [y]))) else Nx H3) := by
  refine lc_list (K := K) (a := a) (xs := xs) (g := gName j) (tt := tYes) (te := te) (vs := [j]) (σ := σ) (Lcs D o H1) (Lcs.start hD) (fun i Hc _ h => Evl.ex_l h.choose_spec.2.2.2 ha) (fun i x Hc hx h => ?_) hd
  refine ⟨wipe_set, ?_⟩
  unfold tYes
  simp only [if_true]
  have hi : i < xs.length := by
    by_cases hi : i < xs.length
    · exact hi
    · rw [List.getElem?_eq_none (by omega)] at hx; cases hx
  exact hs i x Hc _ hx h.choose_spec.2.2.2 fun p H4 h1 h3 h2 => Lcs.step hD (by omega) h h1 h2 h3
theorem lc_rng {te : TE} {j n : Nat} {σ : L2.St} {H : Hp} {D : Addr} {Qd : Hp → Prop} (o : Nat → HO) (hl : n ≤ 1000) (hD : H D = none)
    (hs : ∀ (i : Nat) Hc (R : VK), i < n → Ex H Hc → (∀ p H4, Hc p = none → Ex Hc H4 → H4 p = some (o i) → R (.ref p) H4) → te ((wipe σ [j]).set j (some (.int i))) Hc R)
    (hd : ∀ Hc, Lcs D o H n Hc → Qd Hc) :
    ∃ W : Nat → Nat → Hp → Prop, (∃ m, W 0 m (upd H D (.lst []))) ∧ ∀ i m H, W i m H →
      ((Itr 0 n).stop i H ∧ Qd H) ∨ ((Itr 0 n).go i H ∧ ∃ Nx : Hp → Prop, (∀ H', Nx H' → ∃ m', m' < m ∧ W (i + 1) m' H') ∧ ∀ x H', (Itr 0 n).yld i H x H' → gName j x (wipe σ [j]) H' fun σ2 H2 => wipe σ2 [j] = wipe σ [j] ∧ tYes σ2 H2 fun b H3 =>
        if b = true then te σ2 H3 fun y H4 => ∃ acc, H4 D = some (.lst acc) ∧ acc.length < sizeLine ∧ Nx (upd H4 D (.lst (acc ++ [y]))) else Nx H3) := by
  refine lc_range (lo := 0) (n := n) (g := gName j) (tt := tYes) (te := te) (vs := [j]) (σ := σ) (Lcs D o H) (Lcs.start hD) (fun i Hc hi h => ?_) hd
  refine ⟨wipe_set, ?_⟩
  unfold tYes
  simp only [if_true]
  rw [Int.zero_add]
  exact hs i Hc _ hi h.choose_spec.2.2.2 fun p H4 h1 h3 h2 => Lcs.step hD (by omega) h h1 h2 h3
/-- what stands in the end -/
theorem Lcs.data {K : Frag} {D : Addr} {o : Nat → HO} {H1 H : Hp} {ds : List PyData} (h : Lcs D o H1 ds.length H) (hd : ∀ k d p, ds[k]? = some d → H p = some (o k) → Dp K H (.ref p) d) : ∃ acc, H D = some (.lst acc) ∧ acc.length = ds.length ∧ DpAll K H acc ds := by
  obtain ⟨acc, h1, h2, h3, h4⟩ := h
  refine ⟨acc, h1, h2, ?_⟩
  have key : ∀ (as : List V) (es : List PyData), as.length = es.length → (∀ (k : Nat) (d : PyData), es[k]? = some d → ∃ v, as[k]? = some v ∧ Dp K H v d) → DpAll K H as es := by
    intro as
    induction as with
    | nil => intro es hl _; cases es with
      | nil => exact .nil
      | cons _ _ => cases hl
    | cons v as ih =>
      intro es hl hh
      cases es with
      | nil => cases hl
      | cons d es =>
        obtain ⟨v', e1, e2⟩ := hh 0 d rfl
        cases e1
        exact .cons e2 (ih es (by simpa using hl) fun k d hk => by simpa using hh (k + 1) d (by simpa using hk))
  refine key acc ds h2 fun k d hk => ?_
  have hk' : k < ds.length := by
    by_cases hi : k < ds.length
    · exact hi
    · rw [List.getElem?_eq_none (by omega)] at hk; cases hk
  obtain ⟨p, p1, p2, p3⟩ := h3 k hk'
  exact ⟨_, p1, hd k d p hk p3⟩
/-! positive numbers -/
def numD (xs : List (Int × Int)) : List PyData := xs.map fun x => .tuple [.int x.1, .int x.2]
def fbP : List V → List PyData → Option V
  | x :: xs, d :: ds => if isPosD d = true then fbP xs ds else some x
  | _, _ => none
theorem fbP_drop {K : Frag} {H : Hp} : ∀ {vs : List V} {ds : List PyData} {i : Nat} {x : V}, DpAll K H vs ds → vs[i]? = some x → ∃ d, ds[i]? = some d ∧ Dp K H x d ∧ fbP (vs.drop i) (ds.drop i) = (if isPosD d = true then fbP (vs.drop (i + 1)) (ds.drop (i + 1)) else some x)
  | v :: vs, d :: ds, 0, x, .cons a b, h => by
    simp at h
    subst h
    exact ⟨d, rfl, a, rfl⟩
  | v :: vs, d :: ds, i + 1, x, .cons a b, h => by
    obtain ⟨d', e1, e2, e3⟩ := fbP_drop (i := i) (x := x) b (by simpa using h)
    exact ⟨d', by simpa using e1, e2, by simpa using e3⟩
  | [], [], _, _, .nil, h => by simp at h
theorem fbP_none : ∀ {vs : List V} {ds : List PyData}, vs.length = ds.length → fbP vs ds = none → ∃ xs, ds = numD xs ∧ ∀ x ∈ xs, IsNum x.1 x.2 ∧ 0 < x.1
  | [], [], _, _ => ⟨[], rfl, fun _ h => by cases h⟩
  | v :: vs, d :: ds, hl, h => by
    simp only [fbP] at h
    split at h
    · rename_i hd
      obtain ⟨p, q, rfl, i, h0⟩ := isPosD_inv hd
      obtain ⟨xs, rfl, hx⟩ := fbP_none (by simpa using hl) h
      refine ⟨(p, q) :: xs, rfl, fun x hx' => ?_⟩
      rcases List.mem_cons.mp hx' with rfl | hx'
      · exact ⟨i, h0⟩
      · exact hx x hx'
    · cases h
theorem fbP_num : ∀ {vs : List V} {xs : List (Int × Int)}, (∀ x ∈ xs, IsNum x.1 x.2 ∧ 0 < x.1) → fbP vs (numD xs) = none
  | [], _, _ => by unfold fbP; rfl
  | _ :: _, [], _ => rfl
  | v :: vs, x :: xs, h => by
    have hx := h x List.mem_cons_self
    have e : isPosD (.tuple [.int x.1, .int x.2]) = true := by rw [isPosD_is hx.1]; exact decide_eq_true hx.2
    show (if isPosD (.tuple [.int x.1, .int x.2]) = true then fbP vs (numD xs) else some v) = none
    rw [if_pos e]
    exact fbP_num fun y hy => h y (List.mem_cons_of_mem _ hy)
/-- a number, not too great -/
structure Fit (n : Nat) (x : Int × Int) : Prop where
  i : IsNum x.1 x.2
  p : 0 < x.1
  b1 : Bd n x.1
  b2 : Bd n x.2
theorem Fit.mono {n m : Nat} {x : Int × Int} (h : Fit n x) (hm : n ≤ m) : Fit m x := ⟨h.i, h.p, h.b1.mono hm, h.b2.mono hm⟩
theorem Fit.q {n : Nat} {x : Int × Int} (h : Fit n x) : 0 < x.2 := h.i.1
theorem Fit.red {n : Nat} {A B : Int} (hA : 0 < A) (hB : 0 < B) (b1 : Bd n A) (b2 : Bd n B) : Fit n (red A B) := by
  have h0 : B ≠ 0 := by omega
  have c := red_cross (a := A) h0
  have i := red_num (a := A) h0
  refine ⟨i, ?_, b1.red1 h0, b2.red2 h0⟩
  have h1 : 0 < A * (Rm.red A B).2 := Int.mul_pos hA i.1
  rw [← c] at h1
  exact Int.pos_of_mul_pos_left h1 hB
theorem Fit.meas {n m : Nat} {x y : Int × Int} (h : Fit n x) (k : Fit m y) : Fit (n + m) (meas x y) := by
  have hp := Int.mul_pos h.p k.q
  refine Fit.red ?_ (Int.mul_pos h.q k.q) ?_ (h.b2.mul k.b2)
  · have : 0 < Int.gcd (x.1 * y.2) (y.1 * x.2) := Int.gcd_pos_of_ne_zero_left _ (by omega)
    omega
  · refine Nat.lt_of_le_of_lt ?_ (h.b1.mul k.b2)
    rw [Int.natAbs_natCast]
    exact Nat.le_of_dvd (by omega) (by unfold Int.gcd; exact Nat.gcd_dvd_left _ _)
theorem Fit.times {n m : Nat} {x y : Int × Int} (h : Fit n x) (k : Fit m y) : Fit (n + m) (Rm.red (x.1 * y.1) (x.2 * y.2)) := Fit.red (Int.mul_pos h.p k.p) (Int.mul_pos h.q k.q) (h.b1.mul k.b1) (h.b2.mul k.b2)
theorem Fit.over {n m : Nat} {x y : Int × Int} (h : Fit n x) (k : Fit m y) : Fit (n + m) (Rm.red (x.1 * y.2) (x.2 * y.1)) := Fit.red (Int.mul_pos h.p k.q) (Int.mul_pos h.q k.p) (h.b1.mul k.b2) (h.b2.mul k.b1)
theorem Fit.lmul {n m : Nat} {x y : Int × Int} (h : Fit n x) (k : Fit m y) : Fit ((n + m) + (n + m)) (lmul x y) := (h.times k).over (h.meas k)
def bb : Nat → Nat
  | 0 => 100
  | i + 1 => (bb i + 100) + (bb i + 100)
theorem bb_le {i : Nat} (h : i ≤ 3) : bb i ≤ 2200 := by
  have : i = 0 ∨ i = 1 ∨ i = 2 ∨ i = 3 := by omega
  rcases this with rfl | rfl | rfl | rfl <;> decide
section
variable {K : Frag} {H : Hp} {l : Addr} {vs : List V}
theorem NumAt.updL {x : V} {p q : Int} (h : NumAt K H x p q) (hl : H l = some (.lst vs)) (o : HO) : NumAt K (upd H l o) x p q := by
  obtain ⟨a, rfl, h⟩ := h
  refine ⟨a, rfl, ?_⟩
  rcases h with (h | ⟨u, h⟩) | h
  · exact .inl (.inl (by rw [upd_ne (fun z => by rw [z, hl] at h; cases h)]; exact h))
  · exact .inl (.inr ⟨u, by rw [upd_ne (fun z => by rw [z, hl] at h; cases h)]; exact h⟩)
  · exact .inr h
theorem numsL : ∀ {us : List V} {xs : List (Int × Int)}, DpAll K H us (numD xs) → H l = some (.lst vs) → ∀ o, DpAll K (upd H l o) us (numD xs)
  | [], [], _, _, _ => .nil
  | u :: us, x :: xs, h, hl, o => by
    cases h with
    | cons a b => exact .cons ((NumAt.of a).updL hl o).d (numsL b hl o)
theorem nums_refs : ∀ {us : List V} {xs : List (Int × Int)}, DpAll K H us (numD xs) → ∀ v ∈ us, ∃ a, v = .ref a
  | [], _, _, v, hv => by cases hv
  | u :: us, x :: xs, h, v, hv => by
    cases h with
    | cons a b =>
      rcases List.mem_cons.mp hv with rfl | hv
      · obtain ⟨t, e, _⟩ := NumAt.of a
        exact ⟨t, e⟩
      · exact nums_refs b v hv
theorem DrawAt.updL {d : Addr} {n : Nat} (h : DrawAt K H d n) (hl : H l = some (.lst vs)) (hv : ∀ v ∈ vs, ∃ a, v = .ref a) (o : HO) : DrawAt K (upd H l o) d n := by
  obtain ⟨c, cells, a, lf, u, h1, h2, h3, h4⟩ := h
  refine ⟨c, cells, a, lf, u, by rw [upd_ne (fun z => by rw [z, hl] at h1; cases h1)]; exact h1, ?_, h3, h4⟩
  have ne : ∀ {P : Prop}, H l = some (.lst (cells.map V.int)) → P := fun h => by
    rw [hl] at h
    cases h
    cases cells with
    | nil => exact absurd rfl h3
    | cons i r =>
      obtain ⟨a, e⟩ := hv (.int i) List.mem_cons_self
      cases e
  rcases h2 with (h | ⟨w, h⟩) | h
  · exact .inl (.inl (by rw [upd_ne (fun z => ne (by rw [← z]; exact h))]; exact h))
  · exact .inl (.inr ⟨w, by rw [upd_ne (fun z => by rw [z, hl] at h; cases h)]; exact h⟩)
  · exact .inr h
theorem numD_app {xs ys : List (Int × Int)} : numD (xs ++ ys) = numD xs ++ numD ys := List.map_append
end
abbrev Op2 := Int × Int → Int × Int → Int × Int
def spFold (f : Op2) (K : Frag) (C0 C1 : Addr) : Sp := sp1 fun x H Q E => ∃ p vs ds, x = .ref p ∧ SqT K H p vs ∧ DpAll K H vs ds ∧ vs.length ≤ 4 ∧ (vs = [] → RErr H E C0 "count" (.int 0)) ∧
  (vs ≠ [] → (∀ z, fbP vs ds = some z → RErr H E C1 "thing" z) ∧ (∀ x0 xs, ds = numD (x0 :: xs) → (∀ y ∈ x0 :: xs, IsNum y.1 y.2 ∧ 0 < y.1) → (∀ y ∈ x0 :: xs, Fit 100 y) ∧ ∀ v H', NumAt K H' v (xs.foldl f x0).1 (xs.foldl f x0).2 → Ex H H' → Q v H'))
/-- the same of a list of one to four -/
def spFoldL (f : Op2) (K : Frag) (C1 : Addr) : Sp := sp1 fun x H Q E => ∃ a vs ds, x = .ref a ∧ SqL K H a vs ∧ DpAll K H vs ds ∧ 1 ≤ vs.length ∧ vs.length ≤ 4 ∧ (∀ z, fbP vs ds = some z → RErr H E C1 "thing" z) ∧
  (∀ x0 xs, ds = numD (x0 :: xs) → (∀ y ∈ x0 :: xs, IsNum y.1 y.2 ∧ 0 < y.1) → (∀ y ∈ x0 :: xs, Fit 100 y) ∧ ∀ v H', NumAt K H' v (xs.foldl f x0).1 (xs.foldl f x0).2 → Ex H H' → Q v H')
theorem fold_in {f : Op2} {K : Frag} {C0 C1 : Addr} {H : Hp} {Q : VK} {E : XK} {vs : List V} {ds : List PyData} (hds : DpAll K H vs ds) (h1 : vs ≠ []) (h2 : vs.length ≤ 4) (qe : ∀ z, fbP vs ds = some z → RErr H E C1 "thing" z)
    (qn : ∀ x0 xs, ds = numD (x0 :: xs) → (∀ y ∈ x0 :: xs, IsNum y.1 y.2 ∧ 0 < y.1) → (∀ y ∈ x0 :: xs, Fit 100 y) ∧ ∀ v H', NumAt K H' v (xs.foldl f x0).1 (xs.foldl f x0).2 → Ex H H' → Q v H') :
    vs.length ≤ sizeLine ∧ ∀ t, H t = none → spFold f K C0 C1 [.ref t] (upd H t (.tup vs)) Q E :=
  ⟨by rw [sizeLine_eq]; omega, fun t ht => ⟨_, rfl, t, vs, ds, rfl, SqT.of upd_same, (Car.ex (Evl.Ex.new ht)).ds hds, h2, fun z => absurd z h1, fun _ => ⟨fun z hz => RErr.ex (Evl.Ex.new ht) (qe z hz), fun x0 xs e hy => ⟨(qn x0 xs e hy).1, fun v H' nv eH => (qn x0 xs e hy).2 v H' nv ((Evl.Ex.new ht).trans eH)⟩⟩⟩⟩
theorem numD_inj : ∀ {xs ys : List (Int × Int)}, numD xs = numD ys → xs = ys
  | [], [], _ => rfl
  | [], _ :: _, h => by cases h
  | _ :: _, [], h => by cases h
  | x :: xs, y :: ys, h => by
    have h' : PyData.tuple [.int x.1, .int x.2] :: numD xs = PyData.tuple [.int y.1, .int y.2] :: numD ys := h
    simp only [List.cons.injEq, PyData.tuple.injEq, PyData.int.injEq, and_true] at h'
    obtain ⟨⟨e1, e2⟩, e3⟩ := h'
    rw [numD_inj e3, Prod.ext e1 e2]
theorem fold_num {f : Op2} {K : Frag} {C1 : Addr} {H : Hp} {Q : VK} {E : XK} {a : Addr} {vs : List V} {x0 : Int × Int} {xs : List (Int × Int)} (ha : SqL K H a vs) (hds : DpAll K H vs (numD (x0 :: xs))) (h4 : xs.length ≤ 3) (hf : ∀ y ∈ x0 :: xs, Fit 100 y)
    (h : ∀ v H', NumAt K H' v (xs.foldl f x0).1 (xs.foldl f x0).2 → Ex H H' → Q v H') : spFoldL f K C1 [.ref a] H Q E := by
  have hl : vs.length = xs.length + 1 := by rw [Rm.DpAll.len hds]; simp [numD]
  refine ⟨_, rfl, a, vs, _, rfl, ha, hds, by omega, by omega, fun z hz => ?_, fun y0 ys e _ => ?_⟩
  · rw [fbP_num fun y hy => ⟨(hf y hy).i, (hf y hy).p⟩] at hz
    cases hz
  · have e' := numD_inj e
    cases e'
    exact ⟨hf, h⟩
theorem idx {K : Frag} {H : Hp} {N : Nat} : ∀ {vs : List V} {xs : List (Int × Int)} {as : List Nat} {i : Nat} {x : V}, DpAll K H vs (numD xs) → OnL N xs as → vs[i]? = some x → ∃ y b, xs[i]? = some y ∧ as[i]? = some b ∧ NumAt K H x y.1 y.2 ∧ On N y b
  | v :: vs, y :: xs, b :: as, 0, x, .cons h _, .cons o _, e => by
    simp at e
    subst e
    exact ⟨y, b, rfl, rfl, NumAt.of h, o⟩
  | v :: vs, y :: xs, b :: as, i + 1, x, .cons _ h, .cons _ o, e => by
    obtain ⟨y', b', e1, e2, e3, e4⟩ := idx (i := i) h o (by simpa using e)
    exact ⟨y', b', by simpa using e1, by simpa using e2, e3, e4⟩
  | [], [], _, _, _, .nil, _, e => by simp at e
theorem DpAll.rev {K : Frag} {H : Hp} : ∀ {vs : List V} {ds : List PyData}, DpAll K H vs ds → DpAll K H vs.reverse ds.reverse
  | [], [], .nil => .nil
  | v :: vs, d :: ds, .cons a b => by
    rw [List.reverse_cons, List.reverse_cons]
    exact DpAll.app (DpAll.rev b) (.cons a .nil)
theorem OnL.app {N : Nat} {xs ys : List (Int × Int)} {as bs : List Nat} (h : OnL N xs as) (k : OnL N ys bs) : OnL N (xs ++ ys) (as ++ bs) := by
  induction h with
  | nil => exact k
  | cons a _ ih => exact .cons a ih
theorem OnL.rev {N : Nat} {xs : List (Int × Int)} {as : List Nat} (h : OnL N xs as) : OnL N xs.reverse as.reverse := by
  induction h with
  | nil => exact .nil
  | cons a _ ih =>
    rw [List.reverse_cons, List.reverse_cons]
    exact ih.app (.cons a .nil)
theorem OnL.len {N : Nat} {xs : List (Int × Int)} {as : List Nat} (h : OnL N xs as) : xs.length = as.length := by
  induction h with
  | nil => rfl
  | cons _ _ ih => simp [ih]
theorem fold_eq {N : Nat} {x y : Int × Int} {xs ys : List (Int × Int)} {a b : Nat} {as bs : List Nat} (h : OnL N (x :: xs) (a :: as)) (k : OnL N (y :: ys) (b :: bs)) (e : ∀ c, c ∈ a :: as ↔ c ∈ b :: bs) :
    xs.foldl meas x = ys.foldl meas y ∧ xs.foldl lmul x = ys.foldl lmul y := by
  cases h with
  | cons h1 h2 =>
    cases k with
    | cons k1 k2 =>
      refine ⟨On.ext (h2.meas h1) ?_, On.ext (h2.lmul h1) ?_⟩
      · rw [gcdF_same e]; exact k2.meas k1
      · rw [lcmF_same e]; exact k2.lmul k1
theorem fold_fit {f : Op2} (hf : ∀ {n : Nat} {x y : Int × Int}, Fit n x → Fit 100 y → Fit ((n + 100) + (n + 100)) (f x y)) : ∀ (xs : List (Int × Int)) (x : Int × Int) (i : Nat), Fit (bb i) x → (∀ y ∈ xs, Fit 100 y) → Fit (bb (i + xs.length)) (xs.foldl f x)
  | [], _, _, h, _ => h
  | y :: xs, x, i, h, k => by
    have := fold_fit hf xs (f x y) (i + 1) (hf h (k y List.mem_cons_self)) fun z hz => k z (List.mem_cons_of_mem _ hz)
    show Fit (bb (i + (xs.length + 1))) (xs.foldl f (f x y))
    rw [show i + (xs.length + 1) = i + 1 + xs.length by omega]
    exact this
theorem and_in {tA tB : TT} {σ : L2.St} {H : Hp} {Q : Bool → Hp → Prop} (b : Bool) (hA : ∀ R : Bool → Hp → Prop, R b H → tA σ H R) (hB : b = true → ∀ R : Bool → Hp → Prop, (∀ H', Ex H H' → R false H') → tB σ H R) (hQ : ∀ H', Ex H H' → Q false H') : tAnd tA tB σ H Q := by
  refine hA _ ?_
  cases b with
  | false => exact iteF (hQ H (Evl.Ex.refl H))
  | true => exact iteT (hB rfl Q hQ)
end Rm
namespace Rm
open PySem PySem.W PySem.Calls PyProof.Rows PySem.Spec L2
theorem cut_to {xs : List V} {k : Nat} : cutV xs none (some (k : Int)) = xs.take k := by
  unfold cutV
  rw [HT.sIx_none, HT.sIx_nat, List.drop_zero, Nat.sub_zero, ← List.take_take, List.take_length]
theorem cut_from {xs : List V} {k : Nat} : cutV xs (some (k : Int)) none = xs.drop k := by
  unfold cutV
  rw [HT.sIx_none, HT.sIx_nat]
  by_cases h : k ≤ xs.length
  · rw [Nat.min_eq_left h, List.take_of_length_le (by rw [List.length_drop]; omega)]
  · rw [Nat.min_eq_right (by omega), List.drop_length, List.drop_of_length_le (by omega)]
    exact List.take_nil
theorem DpAll.take {K : Frag} {H : Hp} : ∀ {vs : List V} {ds : List PyData} (k : Nat), DpAll K H vs ds → DpAll K H (vs.take k) (ds.take k)
  | [], [], _, .nil => by simp; exact .nil
  | _ :: _, _ :: _, 0, _ => .nil
  | _ :: _, _ :: _, k + 1, .cons a b => .cons a (DpAll.take k b)
theorem DpAll.drop {K : Frag} {H : Hp} : ∀ {vs : List V} {ds : List PyData} (k : Nat), DpAll K H vs ds → DpAll K H (vs.drop k) (ds.drop k)
  | [], [], _, .nil => by simp; exact .nil
  | _ :: _, _ :: _, 0, h => h
  | _ :: _, _ :: _, k + 1, .cons _ b => DpAll.drop k b
/-- the objects of a comprehension, as data -/
theorem Lcs.pairs {K : Frag} {D : Addr} {o : Nat → HO} {H1 H : Hp} {ps : List (Int × Int)} {n : Nat} (hn : n = ps.length) (h : Lcs D o H1 n H) (ho : ∀ k y, ps[k]? = some y → o k = .tup [.int y.1, .int y.2]) : ∃ acc, H D = some (.lst acc) ∧ DpAll K H acc (numD ps) := by
  have h' : Lcs D o H1 (numD ps).length H := by rw [show (numD ps).length = n by simp [numD, hn]]; exact h
  obtain ⟨acc, h1, _, h3⟩ := h'.data (K := K) fun k d p hk hp => by
    have hk' : (numD ps)[k]? = some d := hk
    unfold numD at hk'
    rw [List.getElem?_map] at hk'
    cases e : ps[k]? with
    | none => rw [e] at hk'; cases hk'
    | some y =>
      rw [e] at hk'
      cases hk'
      rw [ho k y e] at hp
      exact (NumAt.new hp).d
  exact ⟨acc, h1, h3⟩
theorem On.prod {N : Nat} {l m x y : Int × Int} {g L a b : Nat} (hl : On N l g) (hm : On N m L) (hx : On N x a) (hy : On N y b) (e : g * L = a * b) : red (l.1 * m.1) (l.2 * m.2) = red (x.1 * y.1) (x.2 * y.2) := by
  refine red_congr (Int.ne_of_gt (Int.mul_pos hl.q hm.q)) (Int.ne_of_gt (Int.mul_pos hx.q hy.q)) ?_
  have e' : (g : Int) * L = (a : Int) * b := by rw [← Int.natCast_mul, e, Int.natCast_mul]
  have hn : (N : Int) ≠ 0 := by have := hl.n; omega
  have h1 := hl.e
  have h2 := hm.e
  have h3 := hx.e
  have h4 := hy.e
  refine mulC hn (mulC hn ?_)
  have s1 : l.1 * m.1 * (x.2 * y.2) * (N : Int) * N = (l.1 * N) * (m.1 * N) * (x.2 * y.2) := by grind
  have s2 : x.1 * y.1 * (l.2 * m.2) * (N : Int) * N = (x.1 * N) * (y.1 * N) * (l.2 * m.2) := by grind
  rw [s1, s2, h1, h2, h3, h4]
  have s3 : (g : Int) * l.2 * (L * m.2) * (x.2 * y.2) = (g * L) * (l.2 * m.2 * (x.2 * y.2)) := by grind
  have s4 : (a : Int) * x.2 * (b * y.2) * (l.2 * m.2) = (a * b) * (l.2 * m.2 * (x.2 * y.2)) := by grind
  rw [s3, s4, e']
/-- nothing comes out -/
theorem takesF {X : Cx} : Takes X (fun _ _ _ _ => False) := fun _ _ ⟨_, _, _, _, _, _, _, _, _, _, _, _, _, _, _, _, w⟩ => w.elim
theorem and2_in {tB : TT} {σ : L2.St} {H : Hp} {Q : Bool → Hp → Prop} {b : Bool} (hB : b = true → ∀ R : Bool → Hp → Prop, (∀ H', Ex H H' → R false H') → tB σ H R) (hQ : ∀ H', Ex H H' → Q false H') : if b = true then tB σ H Q else Q false H := by
  cases b with
  | false => exact iteF (hQ H (Evl.Ex.refl H))
  | true => exact iteT (hB rfl Q hQ)
theorem rev_cons {α : Type} (x : α) (xs : List α) : ∃ y ys, (x :: xs).reverse = y :: ys := by
  cases h : (x :: xs).reverse with
  | nil => simp at h
  | cons y ys => exact ⟨y, ys, rfl⟩
def pairD (x y : Int × Int) : PyData := .list [.tuple [.int x.1, .int x.2], .tuple [.int y.1, .int y.2]]
theorem pairD_eq (x y : Int × Int) : PyData.eqv (pairD x y) (pairD x y) = true := by simp [pairD, PyData.eqv, PyData.eqvAll]
theorem pairD_ok (x y : Int × Int) : SeqAt.shaped (pairD x y) = true := by simp [pairD, SeqAt.shaped, PyData.canLay0, PyData.canLayAll0, PyData.depth, PyData.depthAll]
theorem Dp.pairN {K : Frag} {H : Hp} {p : Addr} {u v : V} {x y : Int × Int} (h : H p = none) (h1 : NumAt K H u x.1 x.2) (h2 : NumAt K H v y.1 y.2) : Dp K (upd H p (.lst [u, v])) (.ref p) (pairD x y) := Dp.lstN h (.cons h1.d (.cons h2.d .nil))
theorem one_num {K : Frag} {G : Hp} {v : V} {x : Int × Int} {vs : List V} {xs : List (Int × Int)} (h : DpAll K G (v :: vs) (numD (x :: xs))) : NumAt K G v x.1 x.2 := by
  cases h with
  | cons h _ => exact NumAt.of h
theorem two_num {K : Frag} {G : Hp} {v u : V} {x y : Int × Int} {vs : List V} {xs : List (Int × Int)} (h : DpAll K G (v :: u :: vs) (numD (x :: y :: xs))) : NumAt K G v x.1 x.2 ∧ NumAt K G u y.1 y.2 := by
  cases h with
  | cons h r =>
    cases r with
    | cons h2 _ => exact ⟨NumAt.of h, NumAt.of h2⟩
/-- times 6/35 -/
def sc (y : Int × Int) : Int × Int := red (y.1 * 6) (y.2 * 35)
theorem On.sc {N : Nat} {x : Int × Int} {a : Nat} (h : On N x a) : On (35 * N) (Rm.sc x) (6 * a) := h.times (c := 6) (e := 35) (by decide) (by decide)
theorem OnL.sc {N : Nat} {xs : List (Int × Int)} {as : List Nat} (h : OnL N xs as) : OnL (35 * N) (xs.map Rm.sc) (as.map (6 * ·)) := by
  induction h with
  | nil => exact .nil
  | cons a _ ih => exact .cons a.sc ih
theorem fit635 : Fit 6 (6, 35) := ⟨⟨by decide, by decide⟩, by decide, by show Bd 6 6; unfold Bd; decide, by show Bd 6 35; unfold Bd; decide⟩
theorem Fit.sc {n : Nat} {x : Int × Int} (h : Fit n x) : Fit (n + 6) (Rm.sc x) := h.times fit635
theorem op_eqDK {X : Cx} {K : Frag} (hk : X.K = K) (hu : X.A.units + 64 < cLine) : OpR X (compareOp .Eq) (rEqD K) := by
  subst hk
  exact op_eqD hu
theorem fbP_bad : ∀ {vs : List V} {ys : List (Int × Int)} {k : Nat} {v : V} {d : PyData}, vs.length = ys.length → k < ys.length → (∀ y ∈ ys, IsNum y.1 y.2 ∧ 0 < y.1) → isPosD d = false → fbP (vs.take k ++ [v] ++ vs.drop (k + 1)) ((numD ys).take k ++ [d] ++ (numD ys).drop (k + 1)) = some v
  | u :: vs, y :: ys, 0, v, d, _, _, _, hd => by
    show (if isPosD d = true then _ else some v) = some v
    rw [if_neg (by rw [hd]; simp)]
  | u :: vs, y :: ys, k + 1, v, d, hl, hk, h, hd => by
    have hx := h y List.mem_cons_self
    have e : isPosD (.tuple [.int y.1, .int y.2]) = true := by rw [isPosD_is hx.1]; exact decide_eq_true hx.2
    show (if isPosD (.tuple [.int y.1, .int y.2]) = true then fbP (vs.take k ++ [v] ++ vs.drop (k + 1)) ((numD ys).take k ++ [d] ++ (numD ys).drop (k + 1)) else some u) = some v
    rw [if_pos e]
    exact fbP_bad (by simpa using hl) (by simpa using hk) (fun z hz => h z (List.mem_cons_of_mem _ hz)) hd
  | _, [], _, _, _, _, hk, _, _ => by simp at hk
  | [], _ :: _, _, _, _, hl, _, _, _ => by simp at hl
theorem nums_gd {ys : List (Int × Int)} (h : ∀ y ∈ ys, Fit 90 y) (hl : ys.length ≤ 4) : Gd 100 16000000 (.list (numD ys)) := by
  have : ∀ d ∈ numD ys, Gd 1 3852 d := fun d hd => by
    obtain ⟨y, hy, rfl⟩ := List.mem_map.mp hd
    exact Gd.pair (Gd.int ((h y hy).b1.mono (by decide))) (Gd.int ((h y hy).b2.mono (by decide)))
  refine (Gd.lst this).mono (by decide) ?_
  have e : (numD ys).length = ys.length := List.length_map ..
  rw [e]
  omega
theorem canAll : ∀ {ds : List PyData}, (∀ d ∈ ds, d.canLay0 = true ∧ d.depth ≤ 60) → PyData.canLayAll0 ds = true ∧ PyData.depthAll ds ≤ 60
  | [], _ => ⟨rfl, Nat.zero_le _⟩
  | d :: ds, h => by
    obtain ⟨h1, h2⟩ := canAll (ds := ds) fun x hx => h x (List.mem_cons_of_mem _ hx)
    have h3 := h d List.mem_cons_self
    refine ⟨?_, ?_⟩
    · simp [PyData.canLayAll0, h3.1, h1]
    · simp only [PyData.depthAll]; omega
theorem shaped_list {ds : List PyData} (h : ∀ d ∈ ds, d.canLay0 = true ∧ d.depth ≤ 60) : SeqAt.shaped (.list ds) = true := by
  obtain ⟨h1, h2⟩ := canAll h
  have h3 : (PyData.list ds).canLay0 = true := by simpa [PyData.canLay0] using h1
  have h4 : (PyData.list ds).depth ≤ 64 := by simp only [PyData.depth]; omega
  unfold SeqAt.shaped
  rw [h3, decide_eq_true h4]
  rfl
theorem num_can (y : Int × Int) : (PyData.tuple [.int y.1, .int y.2]).canLay0 = true ∧ (PyData.tuple [.int y.1, .int y.2]).depth ≤ 60 := by simp [PyData.canLay0, PyData.canLayAll0, PyData.depth, PyData.depthAll]
end Rm
namespace K4
open PySem PySem.W PySem.Calls PyProof.Rows PySem.Spec L2 Rm
def top (i : Nat) : Stmt := PySem.Challenge.pw_roompace_k04_measures_and_multiples.main.body.getD i (.Pass ⟨0, 0, 0, 0⟩)
abbrev s_is_integer : Stmt := top 8
abbrev s_common_divisor : Stmt := top 9
abbrev s_reduced : Stmt := top 10
abbrev s_is_number : Stmt := top 11
abbrev s_is_positive : Stmt := top 12
abbrev s_check_numbers : Stmt := top 13
abbrev s_number : Stmt := top 14
abbrev s_times : Stmt := top 15
abbrev s_over : Stmt := top 16
abbrev s_multiply : Stmt := top 17
abbrev s_divide : Stmt := top 18
abbrev s_check_positive : Stmt := top 19
abbrev s_measure_of : Stmt := top 20
abbrev s_greatest_measure : Stmt := top 21
abbrev s_least_multiple : Stmt := top 22
abbrev s__law_begin : Stmt := top 24
abbrev s__law_mixed : Stmt := top 25
abbrev s__law_next : Stmt := top 26
abbrev s__law_divisor : Stmt := top 27
abbrev s__law_positive : Stmt := top 28
abbrev s__law_some : Stmt := top 29
abbrev s__law_measure : Stmt := top 30
abbrev s__law_multiple : Stmt := top 31
abbrev s__law_are_coprime : Stmt := top 32
abbrev s__law_right : Stmt := top 33
abbrev s__law_word : Stmt := top 34
abbrev s_law : Stmt := top 35
structure Ad where
  (is_integer common_divisor reduced is_number is_positive check_numbers number times over multiply divide check_positive measure_of greatest_measure least_multiple _law_begin _law_mixed _law_next _law_divisor _law_positive _law_some _law_measure _law_multiple _law_are_coprime _law_right _law_word law InvalidCount InvalidNumber MissingError PaceError StateError ZERO : Addr)
structure Txt (P : Program) (K : Frag) (mg : Str → Option Value) (D : Ad) : Prop where
  f_is_integer : ∃ fd, Fun K "is_integer" "is_integer" s_is_integer D.is_integer fd
  g_is_integer : mg "is_integer" = some (.ref D.is_integer)
  k_is_integer : keepIn K (.ref D.is_integer) = true
  f_common_divisor : ∃ fd, Fun K "common_divisor" "common_divisor" s_common_divisor D.common_divisor fd
  g_common_divisor : mg "common_divisor" = some (.ref D.common_divisor)
  k_common_divisor : keepIn K (.ref D.common_divisor) = true
  f_reduced : ∃ fd, Fun K "reduced" "reduced" s_reduced D.reduced fd
  g_reduced : mg "reduced" = some (.ref D.reduced)
  k_reduced : keepIn K (.ref D.reduced) = true
  f_is_number : ∃ fd, Fun K "is_number" "is_number" s_is_number D.is_number fd
  g_is_number : mg "is_number" = some (.ref D.is_number)
  k_is_number : keepIn K (.ref D.is_number) = true
  f_is_positive : ∃ fd, Fun K "is_positive" "is_positive" s_is_positive D.is_positive fd
  g_is_positive : mg "is_positive" = some (.ref D.is_positive)
  k_is_positive : keepIn K (.ref D.is_positive) = true
  f_check_numbers : ∃ fd, Fun K "check_numbers" "check_numbers" s_check_numbers D.check_numbers fd
  g_check_numbers : mg "check_numbers" = some (.ref D.check_numbers)
  k_check_numbers : keepIn K (.ref D.check_numbers) = true
  f_number : ∃ fd, FunD K "number" "number" (defArgs s_number) (defBody s_number) (defScope s_number) [.int 1] [] D.number fd
  g_number : mg "number" = some (.ref D.number)
  k_number : keepIn K (.ref D.number) = true
  f_times : ∃ fd, Fun K "times" "times" s_times D.times fd
  g_times : mg "times" = some (.ref D.times)
  k_times : keepIn K (.ref D.times) = true
  f_over : ∃ fd, Fun K "over" "over" s_over D.over fd
  g_over : mg "over" = some (.ref D.over)
  k_over : keepIn K (.ref D.over) = true
  f_multiply : ∃ fd, Fun K "multiply" "multiply" s_multiply D.multiply fd
  g_multiply : mg "multiply" = some (.ref D.multiply)
  k_multiply : keepIn K (.ref D.multiply) = true
  f_divide : ∃ fd, Fun K "divide" "divide" s_divide D.divide fd
  g_divide : mg "divide" = some (.ref D.divide)
  k_divide : keepIn K (.ref D.divide) = true
  f_check_positive : ∃ fd, Fun K "check_positive" "check_positive" s_check_positive D.check_positive fd
  g_check_positive : mg "check_positive" = some (.ref D.check_positive)
  k_check_positive : keepIn K (.ref D.check_positive) = true
  f_measure_of : ∃ fd, Fun K "measure_of" "measure_of" s_measure_of D.measure_of fd
  g_measure_of : mg "measure_of" = some (.ref D.measure_of)
  k_measure_of : keepIn K (.ref D.measure_of) = true
  f_greatest_measure : ∃ fd, Fun K "greatest_measure" "greatest_measure" s_greatest_measure D.greatest_measure fd
  g_greatest_measure : mg "greatest_measure" = some (.ref D.greatest_measure)
  k_greatest_measure : keepIn K (.ref D.greatest_measure) = true
  f_least_multiple : ∃ fd, Fun K "least_multiple" "least_multiple" s_least_multiple D.least_multiple fd
  g_least_multiple : mg "least_multiple" = some (.ref D.least_multiple)
  k_least_multiple : keepIn K (.ref D.least_multiple) = true
  f__law_begin : ∃ fd, Fun K "_law_begin" "_law_begin" s__law_begin D._law_begin fd
  g__law_begin : mg "_law_begin" = some (.ref D._law_begin)
  k__law_begin : keepIn K (.ref D._law_begin) = true
  f__law_mixed : ∃ fd, Fun K "_law_mixed" "_law_mixed" s__law_mixed D._law_mixed fd
  g__law_mixed : mg "_law_mixed" = some (.ref D._law_mixed)
  k__law_mixed : keepIn K (.ref D._law_mixed) = true
  f__law_next : ∃ fd, Fun K "_law_next" "_law_next" s__law_next D._law_next fd
  g__law_next : mg "_law_next" = some (.ref D._law_next)
  k__law_next : keepIn K (.ref D._law_next) = true
  f__law_divisor : ∃ fd, Fun K "_law_divisor" "_law_divisor" s__law_divisor D._law_divisor fd
  g__law_divisor : mg "_law_divisor" = some (.ref D._law_divisor)
  k__law_divisor : keepIn K (.ref D._law_divisor) = true
  f__law_positive : ∃ fd, Fun K "_law_positive" "_law_positive" s__law_positive D._law_positive fd
  g__law_positive : mg "_law_positive" = some (.ref D._law_positive)
  k__law_positive : keepIn K (.ref D._law_positive) = true
  f__law_some : ∃ fd, Fun K "_law_some" "_law_some" s__law_some D._law_some fd
  g__law_some : mg "_law_some" = some (.ref D._law_some)
  k__law_some : keepIn K (.ref D._law_some) = true
  f__law_measure : ∃ fd, Fun K "_law_measure" "_law_measure" s__law_measure D._law_measure fd
  g__law_measure : mg "_law_measure" = some (.ref D._law_measure)
  k__law_measure : keepIn K (.ref D._law_measure) = true
  f__law_multiple : ∃ fd, Fun K "_law_multiple" "_law_multiple" s__law_multiple D._law_multiple fd
  g__law_multiple : mg "_law_multiple" = some (.ref D._law_multiple)
  k__law_multiple : keepIn K (.ref D._law_multiple) = true
  f__law_are_coprime : ∃ fd, Fun K "_law_are_coprime" "_law_are_coprime" s__law_are_coprime D._law_are_coprime fd
  g__law_are_coprime : mg "_law_are_coprime" = some (.ref D._law_are_coprime)
  k__law_are_coprime : keepIn K (.ref D._law_are_coprime) = true
  f__law_right : ∃ fd, Fun K "_law_right" "_law_right" s__law_right D._law_right fd
  g__law_right : mg "_law_right" = some (.ref D._law_right)
  k__law_right : keepIn K (.ref D._law_right) = true
  f__law_word : ∃ fd, Fun K "_law_word" "_law_word" s__law_word D._law_word fd
  g__law_word : mg "_law_word" = some (.ref D._law_word)
  k__law_word : keepIn K (.ref D._law_word) = true
  f_law : ∃ fd, Fun K "law" "law" s_law D.law fd
  g_law : mg "law" = some (.ref D.law)
  k_law : keepIn K (.ref D.law) = true
  n_abs : mg "abs" = none
  n_bool : mg "bool" = none
  n_int : mg "int" = none
  n_isinstance : mg "isinstance" = none
  n_len : mg "len" = none
  n_min : mg "min" = none
  n_range : mg "range" = none
  n_repr : mg "repr" = none
  n_tuple : mg "tuple" = none
  g_InvalidCount : mg "InvalidCount" = some (.ref D.InvalidCount)
  g_InvalidNumber : mg "InvalidNumber" = some (.ref D.InvalidNumber)
  g_MissingError : mg "MissingError" = some (.ref D.MissingError)
  g_PaceError : mg "PaceError" = some (.ref D.PaceError)
  g_StateError : mg "StateError" = some (.ref D.StateError)
  k_InvalidCount : keepIn K (.ref D.InvalidCount) = true
  x_InvalidCount : XCls P K mg "ValueError" "ValueError.__new__" "ValueError.__init__" [.type "ValueError", .type "Exception", .type "BaseException", .type "object"] "count" D.InvalidCount
  z_InvalidCount : ∀ X : Cx, X.K = K → Raises X (.ref D.InvalidCount)
  t_InvalidCount : XKit K D.InvalidCount
  h_InvalidCount : findIn K (.ref D.InvalidCount) "count" = some none
  k_InvalidNumber : keepIn K (.ref D.InvalidNumber) = true
  x_InvalidNumber : XCls P K mg "ValueError" "ValueError.__new__" "ValueError.__init__" [.type "ValueError", .type "Exception", .type "BaseException", .type "object"] "thing" D.InvalidNumber
  z_InvalidNumber : ∀ X : Cx, X.K = K → Raises X (.ref D.InvalidNumber)
  t_InvalidNumber : XKit K D.InvalidNumber
  h_InvalidNumber : findIn K (.ref D.InvalidNumber) "thing" = some none
  g_ZERO : ∃ u, mg "ZERO" = some u ∧ RelV (.ref D.ZERO) u
  q_ZERO : ∀ H : Hp, NumAt K H (.ref D.ZERO) 0 1
  e_InvalidNumber : exmAny K (.ref D.InvalidNumber) [.ref D.PaceError, .ref D.StateError, .ref D.MissingError] = some true
  e_InvalidCount : exmAny K (.ref D.InvalidCount) [.ref D.PaceError, .ref D.StateError, .ref D.MissingError] = some true
  i_nn : kitOne K (.ref D.InvalidNumber) (.ref D.InvalidNumber) = some true
  i_cc : kitOne K (.ref D.InvalidCount) (.ref D.InvalidCount) = some true
  i_nc : kitOne K (.ref D.InvalidNumber) (.ref D.InvalidCount) = some false
section
variable {P : Program} {w : World} {K : Frag} {mg : Str → Option Value} {base : Heap} {D : Ad}
abbrev N_is_integer : List Str := ["thing"]
theorem sc_is_integer : FnScope N_is_integer ["thing"] (defScope s_is_integer) := ⟨rfl, rfl, rfl, by decide +kernel, rfl, by decide +kernel, by decide +kernel⟩
theorem fb_is_integer (T : Txt P K mg D) : ∃ fd, Fun K "is_integer" "is_integer" s_is_integer D.is_integer fd ∧ FnB P w K mg base 1 D.is_integer fd ["thing"] (spIsInt K) := by
  obtain ⟨fd, F⟩ := T.f_is_integer
  refine ⟨fd, F, Fun_okB (k := 0) F sc_is_integer fun cdv A outer s H vs Q E hr hg h => ?_⟩
  have nd := sc_is_integer.nd
  obtain ⟨x, rfl, d, hd, q⟩ := h
  refine ⟨_, (pss_one (ps_ret (pe_and (pe_callB call_isD rfl T.n_isinstance (by decide +kernel) (pa_cons (pv 0) (pa_cons (pe_bltn (v := .ty "int") rfl T.n_int (by decide +kernel) rfl) pa_nil))) (pe_one (pe_not (pe_callB call_isD rfl T.n_isinstance (by decide +kernel) (pa_cons (pv 0) (pa_cons (pe_bltn (v := .ty "bool") rfl T.n_bool (by decide +kernel) rfl) pa_nil)))))))), ?_⟩
  refine ⟨_, rfl, _, _, d, _, rfl, hd, kit_int d, _, rfl, ?_⟩
  cases d <;> first | exact iteF q | exact iteT ⟨_, rfl, _, _, _, _, rfl, hd, kit_bool _, _, rfl, q⟩
theorem ok_is_integer (T : Txt P K mg D) : CallG P w K mg base 1 D.is_integer [] (spIsInt K) := by
  obtain ⟨fd, F, B⟩ := fb_is_integer (w := w) (base := base) T
  exact B.pos sp1_len (F.binds (ps := ["thing"]) fun _ _ _ _ _ _ us hl => match us, hl with | [_], _ => rfl)
abbrev N_common_divisor : List Str := ["first", "second"]
theorem sc_common_divisor : FnScope N_common_divisor ["first", "second"] (defScope s_common_divisor) := ⟨rfl, rfl, rfl, by decide +kernel, rfl, by decide +kernel, by decide +kernel⟩
theorem fb_common_divisor (T : Txt P K mg D) : ∃ fd, Fun K "common_divisor" "common_divisor" s_common_divisor D.common_divisor fd ∧ FnB P w K mg base 1 D.common_divisor fd ["first", "second"] spGcd := by
  obtain ⟨fd, F⟩ := T.f_common_divisor
  refine ⟨fd, F, Fun_okB (k := 0) F sc_common_divisor fun cdv A outer s H vs Q E hr hg h => ?_⟩
  have nd := sc_common_divisor.nd
  obtain ⟨x, y, rfl, a, b, rfl, rfl, q⟩ := h
  refine ⟨_, (pss_cons (ps_par rfl nd (i := 0) (j := 1) rfl rfl (by decide) rfl rfl (pa_cons (pe_callB call_abs rfl T.n_abs (by decide +kernel) (pa_cons (pv 0) pa_nil)) (pa_cons (pe_callB call_abs rfl T.n_abs (by decide +kernel) (pa_cons (pv 1) pa_nil)) pa_nil)) (by rfl))
        (pss_cons (ps_while (passes_of rfl) (pt_cmpR op_gt (pv 1) pe_int (nomark _)) (pss_one (ps_par rfl nd (i := 0) (j := 1) rfl rfl (by decide) rfl rfl (pa_cons (pv 1) (pa_cons (pe_op op_mod (pv 0) (pv 1)) pa_nil)) (by rfl))))
        (pss_one (ps_ret (pv 0))))), ?_⟩
  refine ⟨_, rfl, _, rfl, _, rfl, _, rfl, _, _, rfl, ?_⟩
  refine while_by (fun σ H' => ∃ x y : Int, σ = [some (.int x), some (.int y)] ∧ H' = H ∧ 0 ≤ x ∧ 0 ≤ y ∧ Int.gcd x y = Int.gcd a b)
    (fun σ _ => match σ with | [_, some (.int y)] => y.toNat | _ => 0) ⟨if a < 0 then -a else a, if b < 0 then -b else b, rfl, rfl, by split <;> omega, by split <;> omega, ?_⟩ ?_ ?_
  · split <;> split <;> simp [Int.gcd]
  · rintro σ H' ⟨x, y, rfl, rfl, hx, hy, hg'⟩
    refine ⟨_, rfl, _, _, rfl, rfl, _, rfl, ?_⟩
    refine iteB (fun c => ?_) (fun c => ?_)
    · have hy' : 0 < y := of_decide_eq_true c
      refine ⟨_, rfl, _, rfl, _, rfl, _, _, rfl, rfl, hy', _, _, rfl, ⟨y, x % y, rfl, rfl, hy, Int.emod_nonneg _ (by omega), by rw [gcd_step hx hy', hg']⟩, ?_⟩
      have := Int.emod_lt_of_pos x hy'
      have := Int.emod_nonneg x (show y ≠ 0 by omega)
      show (x % y).toNat < y.toNat
      omega
    · have hy' : ¬ 0 < y := of_decide_eq_false c
      have hy0 : y = 0 := by omega
      refine ⟨_, rfl, ?_⟩
      subst hy0
      have : (x : Int) = (Int.gcd a b : Nat) := by rw [← hg']; simp [Int.gcd]; omega
      rw [this]
      exact q
  · rintro σ H' Q1 Q2 hq ⟨v, e, i, j, e1, e2, k, e3, z⟩
    exact ⟨v, e, i, j, e1, e2, k, e3, hq _ _ z⟩
theorem ok_common_divisor (T : Txt P K mg D) : CallG P w K mg base 1 D.common_divisor [] spGcd := by
  obtain ⟨fd, F, B⟩ := fb_common_divisor (w := w) (base := base) T
  exact B.pos sp2_len (F.binds (ps := ["first", "second"]) fun _ _ _ _ _ _ us hl => match us, hl with | [_, _], _ => rfl)
abbrev N_reduced : List Str := ["above", "below", "divisor"]
theorem sc_reduced : FnScope N_reduced ["above", "below"] (defScope s_reduced) := ⟨rfl, rfl, rfl, by decide +kernel, rfl, by decide +kernel, by decide +kernel⟩
theorem fb_reduced (T : Txt P K mg D) : ∃ fd, Fun K "reduced" "reduced" s_reduced D.reduced fd ∧ FnB P w K mg base 2 D.reduced fd ["above", "below"] spRed := by
  obtain ⟨fd, F⟩ := T.f_reduced
  refine ⟨fd, F, Fun_okB (k := 1) F sc_reduced fun cdv A outer s H vs Q E hr hg h => ?_⟩
  have nd := sc_reduced.nd
  obtain ⟨x, y, rfl, a, b, rfl, rfl, hb, hB, q⟩ := h
  refine ⟨_, (pss_cons (ps_set (i := 2) nd rfl (.inl rfl) (pe_callG (ok_common_divisor T) (hr.mono (by decide)) hg (takes_of rfl rfl rfl rfl) rfl T.g_common_divisor T.k_common_divisor (pa_cons (pv 0) (pa_cons (pv 1) pa_nil))))
        (pss_cons (ps_if (pt_cmpR op_lt (pv 1) pe_int (nomark _)) (pss_one (ps_set (i := 2) nd rfl (.inl rfl) (pe_un un_neg (pv 2)))) pss_nil)
        (pss_one (ps_ret (pe_tup (pa_cons (pe_op op_fdivS (pv 0) (pv 2)) (pa_cons (pe_op op_fdivS (pv 1) (pv 2)) pa_nil))))))), ?_⟩
  have hdv : Bd 9000 (dv a b) := by
    unfold Bd
    rw [dv_abs]
    exact Nat.lt_of_le_of_lt (Nat.le_of_dvd (by omega) (by unfold Int.gcd; exact Nat.gcd_dvd_right _ _)) hB
  have fin : ∀ {H' : Hp}, Ex H H' → ∀ σ : L2.St, σ = [some (.int a), some (.int b), some (.int (dv a b))] → tRet (tTup (tCons (tOp (rI CDivS fun i j => .int (i.fdiv j)) (tVar 0) (tVar 2)) (tCons (tOp (rI CDivS fun i j => .int (i.fdiv j)) (tVar 1) (tVar 2)) tNil))) { nx := fun _ H' => Q .non H', rt := Q } σ H' := by
    rintro H' ex σ rfl
    refine ⟨_, rfl, _, rfl, _, _, rfl, rfl, hdv.fdiv (dv_ne hb), _, rfl, _, rfl, _, _, rfl, rfl, hdv.fdiv (dv_ne hb), by rw [sizeLine_eq]; show 2 ≤ 16777216; decide, fun p hp => ?_⟩
    exact q p _ (Evl.fresh_back ex hp) (ex.trans (Evl.Ex.new hp)) upd_same
  refine ⟨_, rfl, _, rfl, _, _, rfl, a, b, rfl, rfl, ?_⟩
  refine ⟨_, rfl, _, _, rfl, rfl, _, rfl, ?_⟩
  refine iteB (fun c => ?_) (fun c => ?_)
  · have hb' : b < 0 := of_decide_eq_true c
    refine ⟨_, rfl, _, rfl, ?_⟩
    exact fin (Evl.Ex.refl H) _ (by show [some (V.int a), some (V.int b), some (V.int (-(Int.gcd a b : Int)))] = _; unfold dv; rw [if_pos hb'])
  · have hb' : ¬ b < 0 := of_decide_eq_false c
    exact fin (Evl.Ex.refl H) _ (by show [some (V.int a), some (V.int b), some (V.int (Int.gcd a b : Int))] = _; unfold dv; rw [if_neg hb'])
theorem ok_reduced (T : Txt P K mg D) : CallG P w K mg base 2 D.reduced [] spRed := by
  obtain ⟨fd, F, B⟩ := fb_reduced (w := w) (base := base) T
  exact B.pos sp2_len (F.binds (ps := ["above", "below"]) fun _ _ _ _ _ _ us hl => match us, hl with | [_, _], _ => rfl)
abbrev N_is_number : List Str := ["thing", "above", "below"]
theorem sc_is_number : FnScope N_is_number ["thing"] (defScope s_is_number) := ⟨rfl, rfl, rfl, by decide +kernel, rfl, by decide +kernel, by decide +kernel⟩
theorem fb_is_number (T : Txt P K mg D) : ∃ fd, Fun K "is_number" "is_number" s_is_number D.is_number fd ∧ FnB P w K mg base 2 D.is_number fd ["thing"] (spIsNum K) := by
  obtain ⟨fd, F⟩ := T.f_is_number
  refine ⟨fd, F, Fun_okB (k := 1) F sc_is_number fun cdv A outer s H vs Q E hr hg h => ?_⟩
  have nd := sc_is_number.nd
  obtain ⟨x, rfl, d, hd, q⟩ := h
  refine ⟨_, (pss_cons (ps_if (PW.pt (pw_or (pt_not (pt_val (pe_callB call_isD rfl T.n_isinstance (by decide +kernel) (pa_cons (pv 0) (pa_cons (pe_bltn (v := .ty "tuple") rfl T.n_tuple (by decide +kernel) rfl) pa_nil))))) (pw_or1 (pt_cmpR op_ne (pe_callB call_len rfl T.n_len (by decide +kernel) (pa_cons (pv 0) pa_nil)) pe_int (nomark _))))) (pss_one (ps_ret pe_bl)) pss_nil)
        (pss_cons (ps_asg (pv 0) (pg_tup rfl (pgs_cons (pg_name (i := 1) nd rfl (.inl rfl)) (pgs_cons (pg_name (i := 2) nd rfl (.inl rfl)) pgs_nil))))
        (pss_cons (ps_if (PW.pt (pw_or (pt_not (pt_val (pe_callG (ok_is_integer T) (hr.mono (by decide)) hg (takes_of rfl rfl rfl rfl) rfl T.g_is_integer T.k_is_integer (pa_cons (pv 1) pa_nil)))) (pw_or (pt_not (pt_val (pe_callG (ok_is_integer T) (hr.mono (by decide)) hg (takes_of rfl rfl rfl rfl) rfl T.g_is_integer T.k_is_integer (pa_cons (pv 2) pa_nil)))) (pw_or1 (pt_cmpR op_lt (pv 2) pe_int (nomark _)))))) (pss_one (ps_ret pe_bl)) pss_nil)
        (pss_one (ps_ret (pe_cmpR op_eq (pe_callG (ok_common_divisor T) (hr.mono (by decide)) hg (takes_of rfl rfl rfl rfl) rfl T.g_common_divisor T.k_common_divisor (pa_cons (pv 1) (pa_cons (pv 2) pa_nil))) pe_int (nomark _))))))), ?_⟩
  have q0 := q H (Evl.Ex.refl H)
  refine ⟨_, rfl, _, _, d, _, rfl, hd, kit_tuple d, _, rfl, ?_⟩
  cases hd with
  | non => exact iteT (iteT q0)
  | bl b => exact iteT (iteT q0)
  | int i => exact iteT (iteT q0)
  | str x => exact iteT (iteT q0)
  | lst _ _ => exact iteT (iteT q0)
  | @tup a xs ds ha hds =>
    have hl := DpAll.len hds
    refine iteF ⟨_, rfl, _, _, rfl, .inr ⟨_, ha, rfl⟩, rfl, _, rfl, ?_⟩
    refine iteB (fun c => ?_) (fun c => ?_)
    · have : isNumD (.tuple ds) = false := isNumD_tup (fun z => by rw [hl, z] at c; simp at c)
      rw [this] at q0
      exact q0
    · have h2 : xs.length = 2 := by
        have : V.int (xs.length : Int) = V.int 2 := by simpa using c
        have := V.int.inj this
        omega
      obtain ⟨u, v, du, dw, rfl, rfl, hu, hv⟩ := DpAll.two hds h2
      · refine ⟨_, rfl, _, _, rfl, ha, rfl, _, _, rfl, _, _, rfl, rfl, ?_⟩
        refine ⟨_, rfl, _, rfl, du, hu, _, rfl, ?_⟩
        refine iteB (fun c => ?_) (fun c => ?_)
        · rw [isNumD_1 (by simpa using c)] at q0
          exact iteT q0
        · obtain ⟨i, rfl⟩ := isIntD_inv (by simpa using c)
          refine ⟨_, rfl, _, rfl, dw, hv, _, rfl, ?_⟩
          refine iteB (fun c => ?_) (fun c => ?_)
          · rw [isNumD_2 (by simpa using c)] at q0
            exact iteT q0
          · obtain ⟨j, rfl⟩ := isIntD_inv (by simpa using c)
            cases hu
            cases hv
            refine ⟨_, rfl, _, _, rfl, rfl, _, rfl, ?_⟩
            refine iteB (fun c => ?_) (fun c => ?_)
            · have hj : j < 1 := of_decide_eq_true c
              have : isNumD (.tuple [.int i, .int j]) = false := decide_eq_false fun z => by have := z.1; omega
              rw [this] at q0
              exact q0
            · have hj : ¬ j < 1 := of_decide_eq_false c
              refine ⟨_, rfl, _, rfl, _, _, rfl, i, j, rfl, rfl, rfl, ?_⟩
              have : decide (V.int (Int.gcd i j : Nat) = V.int 1) = isNumD (.tuple [.int i, .int j]) := by
                unfold isNumD IsNum
                by_cases g : Int.gcd i j = 1
                · have e1 : V.int (Int.gcd i j : Nat) = V.int 1 := by rw [g]; rfl
                  rw [decide_eq_true e1]
                  exact (decide_eq_true (show 1 ≤ j ∧ Int.gcd i j = 1 from ⟨by omega, g⟩)).symm
                · have g' : ¬ V.int (Int.gcd i j : Nat) = V.int 1 := fun z => g (by have := V.int.inj z; omega)
                  simp [g, g']
              rw [this]
              exact q0
theorem ok_is_number (T : Txt P K mg D) : CallG P w K mg base 2 D.is_number [] (spIsNum K) := by
  obtain ⟨fd, F, B⟩ := fb_is_number (w := w) (base := base) T
  exact B.pos sp1_len (F.binds (ps := ["thing"]) fun _ _ _ _ _ _ us hl => match us, hl with | [_], _ => rfl)
abbrev N_is_positive : List Str := ["thing"]
theorem sc_is_positive : FnScope N_is_positive ["thing"] (defScope s_is_positive) := ⟨rfl, rfl, rfl, by decide +kernel, rfl, by decide +kernel, by decide +kernel⟩
theorem fb_is_positive (T : Txt P K mg D) : ∃ fd, Fun K "is_positive" "is_positive" s_is_positive D.is_positive fd ∧ FnB P w K mg base 3 D.is_positive fd ["thing"] (spIsPos K) := by
  obtain ⟨fd, F⟩ := T.f_is_positive
  refine ⟨fd, F, Fun_okB (k := 2) F sc_is_positive fun cdv A outer s H vs Q E hr hg h => ?_⟩
  have nd := sc_is_positive.nd
  obtain ⟨x, rfl, d, hd, hq⟩ := h
  refine ⟨_, (pss_one (ps_ret (pe_and (pe_callG (ok_is_number T) (hr.mono (by decide)) hg (takes_of rfl rfl rfl rfl) rfl T.g_is_number T.k_is_number (pa_cons (pv 0) pa_nil)) (pe_one (pe_cmpR op_gt (pe_ix ix_tup (pv 0) pe_int (fun _ _ => rfl)) pe_int (nomark _)))))), ?_⟩
  refine ⟨_, rfl, _, rfl, d, hd, fun H1 e1 => ⟨_, rfl, iteB (fun c => ?_) (fun c => ?_)⟩⟩
  · obtain ⟨p, q, rfl, i⟩ := isNumD_inv c
    obtain ⟨a, rfl, ha⟩ := NumAt.of ((Car.ex e1).d hd)
    have q0 := hq H1 e1
    rw [isPosD_is i] at q0
    exact ⟨_, rfl, _, _, _, _, rfl, rfl, ha, rfl, _, _, rfl, rfl, q0⟩
  · have q0 := hq H1 e1
    rw [isPosD_no c] at q0
    exact q0
theorem ok_is_positive (T : Txt P K mg D) : CallG P w K mg base 3 D.is_positive [] (spIsPos K) := by
  obtain ⟨fd, F, B⟩ := fb_is_positive (w := w) (base := base) T
  exact B.pos sp1_len (F.binds (ps := ["thing"]) fun _ _ _ _ _ _ us hl => match us, hl with | [_], _ => rfl)
abbrev N_check_numbers : List Str := ["things", "thing"]
theorem sc_check_numbers : FnScope N_check_numbers ["things"] (defScope s_check_numbers) := ⟨rfl, rfl, rfl, by decide +kernel, rfl, by decide +kernel, by decide +kernel⟩
theorem fb_check_numbers (T : Txt P K mg D) : ∃ fd, Fun K "check_numbers" "check_numbers" s_check_numbers D.check_numbers fd ∧ FnB P w K mg base 3 D.check_numbers fd ["things"] (spCheckNums1 K D.InvalidNumber) := by
  obtain ⟨fd, F⟩ := T.f_check_numbers
  refine ⟨fd, F, Fun_okB (k := 2) F sc_check_numbers fun cdv A outer s H vs Q E hr hg h => ?_⟩
  have nd := sc_check_numbers.nd
  obtain ⟨x, rfl, p, vs, rfl, hp, ds, hlen, hds, q⟩ := h
  refine ⟨_, (pss_one (ps_for (passes_of rfl) rfl (pi_tup (pv 0)) (pg_name (i := 1) nd rfl (.inl rfl)) (pss_one (ps_if (pt_not (pt_val (pe_callG (ok_is_number T) (hr.mono (by decide)) hg (takes_of rfl rfl rfl rfl) rfl T.g_is_number T.k_is_number (pa_cons (pv 1) pa_nil)))) (pss_one (ps_raise rfl (takes_of rfl rfl rfl rfl) (pmk_newX T.x_InvalidNumber (hr.mono (by decide)) T.k_InvalidNumber (T.z_InvalidNumber _ rfl) rfl T.g_InvalidNumber (pv 1)))) pss_nil)))), ?_⟩
  refine ⟨_, rfl, p, rfl, ⟨_, hp⟩, for_tup (K := K) (a := p) (xs := vs) (fun i σ H' => Ex H H' ∧ (∃ v, σ = [some (.ref p), v]) ∧ fb (vs.drop i) (ds.drop i) = fb vs ds)
    ⟨Evl.Ex.refl H, ⟨none, rfl⟩, rfl⟩ (fun i σ H' _ z => Evl.ex_t z.1 hp) ?_ ?_⟩
  · rintro i x σ H' hx ⟨ex, ⟨v, rfl⟩, hf⟩
    obtain ⟨d, e1, e2, e3⟩ := fb_drop ((Car.ex ex).ds hds) hx
    refine ⟨_, rfl, _, rfl, d, e2, fun H2 ex2 => ⟨_, rfl, ?_⟩⟩
    refine iteB (fun c => ?_) (fun c => ?_)
    · have c' : isNumD d = false := by simpa using c
      rw [hf, if_neg (by rw [c']; simp)] at e3
      rw [e3] at q
      refine ⟨_, rfl, fun dd hdd => ?_⟩
      exact q dd _ (ex.trans (ex2.trans (Evl.Ex.new hdd))) upd_same
    · have c' : isNumD d = true := by simpa using c
      rw [hf, if_pos c'] at e3
      exact ⟨ex.trans ex2, ⟨some x, rfl⟩, e3.symm⟩
  · rintro σ H' ⟨ex, ⟨v, rfl⟩, hf⟩
    have : fb vs ds = none := by
      rw [← hf, List.drop_length]
      rfl
    rw [this] at q
    exact q H' ex
theorem ok_check_numbers (T : Txt P K mg D) : CallG P w K mg base 3 D.check_numbers [] (fun vs H Q E => vs.length ≤ sizeLine ∧ ∀ p, H p = none → (spCheckNums1 K D.InvalidNumber) [.ref p] (upd H p (.tup vs)) Q E) := by
  obtain ⟨fd, F, B⟩ := fb_check_numbers (w := w) (base := base) T
  exact FnB.star (pv := "things") B (by obtain ⟨_, _, _, _, _, _, _, _, _, rfl, _⟩ := F.ex; intro rest; cases rest <;> rfl)
abbrev N_number : List Str := ["above", "below"]
theorem sc_number : FnScope N_number ["above", "below"] (defScope s_number) := ⟨rfl, rfl, rfl, by decide +kernel, rfl, by decide +kernel, by decide +kernel⟩
theorem fb_number (T : Txt P K mg D) : ∃ fd, FunD K "number" "number" (defArgs s_number) (defBody s_number) (defScope s_number) [.int 1] [] D.number fd ∧ FnB P w K mg base 3 D.number fd ["above", "below"] (spNumber K D.InvalidNumber) := by
  obtain ⟨fd, F⟩ := T.f_number
  refine ⟨fd, F, FunD_okB (k := 2) F sc_number fun cdv A outer s H vs Q E hr hg h => ?_⟩
  have nd := sc_number.nd
  obtain ⟨x, y, rfl, dx, dy, hx, hy, q1, q2⟩ := h
  refine ⟨_, (pss_cons (ps_if (PW.pt (pw_or (pt_not (pt_val (pe_callG (ok_is_integer T) (hr.mono (by decide)) hg (takes_of rfl rfl rfl rfl) rfl T.g_is_integer T.k_is_integer (pa_cons (pv 0) pa_nil)))) (pw_or (pt_not (pt_val (pe_callG (ok_is_integer T) (hr.mono (by decide)) hg (takes_of rfl rfl rfl rfl) rfl T.g_is_integer T.k_is_integer (pa_cons (pv 1) pa_nil)))) (pw_or1 (pt_cmpR op_eq (pv 1) pe_int (nomark _)))))) (pss_one (ps_raise rfl (takes_of rfl rfl rfl rfl) (pmk_newX T.x_InvalidNumber (hr.mono (by decide)) T.k_InvalidNumber (T.z_InvalidNumber _ rfl) rfl T.g_InvalidNumber (pe_tup (pa_cons (pv 0) (pa_cons (pv 1) pa_nil)))))) pss_nil)
        (pss_one (ps_ret (pe_callG (ok_reduced T) (hr.mono (by decide)) hg (takes_of rfl rfl rfl rfl) rfl T.g_reduced T.k_reduced (pa_cons (pv 0) (pa_cons (pv 1) pa_nil)))))), ?_⟩
  have rz : (∀ a b, dx = .int a → dy = .int b → b = 0) → ∀ (t : Addr), H t = none → ∀ dd, upd H t (.tup [x, y]) dd = none → E (.ref D.InvalidNumber) (some dd) (upd (upd H t (.tup [x, y])) dd (.xd [("thing", .ref t)])) := fun hc t ht dd hdd =>
    q2 hc t _ ht rfl dd _ (Evl.Ex.new hdd) upd_same
  have sz : [x, y].length ≤ sizeLine := by rw [sizeLine_eq]; show 2 ≤ 16777216; decide
  refine ⟨_, rfl, _, rfl, dx, hx, _, rfl, ?_⟩
  refine iteB (fun c => ?_) (fun c => ?_)
  · have c' : isIntD dx = false := by simpa using c
    exact iteT ⟨_, rfl, _, rfl, sz, fun t ht dd hdd => rz (fun a b e _ => by rw [e] at c'; cases c') t ht dd hdd⟩
  · obtain ⟨a, rfl⟩ := isIntD_inv (by simpa using c)
    refine ⟨_, rfl, _, rfl, dy, hy, _, rfl, ?_⟩
    refine iteB (fun c => ?_) (fun c => ?_)
    · have c' : isIntD dy = false := by simpa using c
      exact iteT ⟨_, rfl, _, rfl, sz, fun t ht dd hdd => rz (fun a b _ e => by rw [e] at c'; cases c') t ht dd hdd⟩
    · obtain ⟨b, rfl⟩ := isIntD_inv (by simpa using c)
      cases hx
      cases hy
      refine ⟨_, rfl, rfl, _, rfl, ?_⟩
      refine iteB (fun c => ?_) (fun c => ?_)
      · have hb : b = 0 := V.int.inj (of_decide_eq_true c)
        exact ⟨_, rfl, _, rfl, sz, fun t ht dd hdd => rz (fun a' b' _ e => by cases e; exact hb) t ht dd hdd⟩
      · have hb : b ≠ 0 := fun z => of_decide_eq_false c (by rw [z])
        obtain ⟨hB, hq⟩ := q1 a b rfl rfl hb
        exact ⟨_, rfl, _, rfl, _, _, rfl, a, b, rfl, rfl, hb, hB, hq⟩
theorem ok_number (T : Txt P K mg D) : CallG P w K mg base 3 D.number [] (spNumber K D.InvalidNumber) := by
  obtain ⟨fd, F, B⟩ := fb_number (w := w) (base := base) T
  exact B.pos sp2_len fun s us hk hl => match us, hl with | [_, _], _ => F.toB (by simp) (fun _ _ _ _ _ _ _ its hi => match its, hi with | [_], _ => ⟨_, rfl, rfl⟩) s hk
abbrev N_times : List Str := ["first", "second"]
theorem sc_times : FnScope N_times ["first", "second"] (defScope s_times) := ⟨rfl, rfl, rfl, by decide +kernel, rfl, by decide +kernel, by decide +kernel⟩
theorem fb_times (T : Txt P K mg D) : ∃ fd, Fun K "times" "times" s_times D.times fd ∧ FnB P w K mg base 3 D.times fd ["first", "second"] (spTimes K) := by
  obtain ⟨fd, F⟩ := T.f_times
  refine ⟨fd, F, Fun_okB (k := 2) F sc_times fun cdv A outer s H vs Q E hr hg h => ?_⟩
  have nd := sc_times.nd
  obtain ⟨x, y, rfl, p, q, r, s, ⟨a, rfl, ha⟩, ⟨b, rfl, hb⟩, b1, b2, b3, b4, hne, hq⟩ := h
  refine ⟨_, (pss_one (ps_ret (pe_callG (ok_reduced T) (hr.mono (by decide)) hg (takes_of rfl rfl rfl rfl) rfl T.g_reduced T.k_reduced (pa_cons (pe_op op_mulW (pe_ix ix_tup (pv 0) pe_int (fun _ _ => rfl)) (pe_ix ix_tup (pv 1) pe_int (fun _ _ => rfl))) (pa_cons (pe_op op_mulW (pe_ix ix_tup (pv 0) pe_int (fun _ _ => rfl)) (pe_ix ix_tup (pv 1) pe_int (fun _ _ => rfl))) pa_nil))))), ?_⟩
  exact ⟨_, rfl, _, _, _, _, rfl, rfl, ha, rfl, _, rfl, _, _, _, _, rfl, rfl, hb, rfl, _, _, rfl, rfl, (b1.mulW b3), _, rfl, _, _, _, _, rfl, rfl, ha, rfl, _, rfl, _, _, _, _, rfl, rfl, hb, rfl, _, _, rfl, rfl, (b2.mulW b4), _, _, rfl, _, _, rfl, rfl, hne, (b2.mul b4).mono (by decide), hq⟩
theorem ok_times (T : Txt P K mg D) : CallG P w K mg base 3 D.times [] (spTimes K) := by
  obtain ⟨fd, F, B⟩ := fb_times (w := w) (base := base) T
  exact B.pos sp2_len (F.binds (ps := ["first", "second"]) fun _ _ _ _ _ _ us hl => match us, hl with | [_, _], _ => rfl)
abbrev N_over : List Str := ["first", "second"]
theorem sc_over : FnScope N_over ["first", "second"] (defScope s_over) := ⟨rfl, rfl, rfl, by decide +kernel, rfl, by decide +kernel, by decide +kernel⟩
theorem fb_over (T : Txt P K mg D) : ∃ fd, Fun K "over" "over" s_over D.over fd ∧ FnB P w K mg base 3 D.over fd ["first", "second"] (spOver K) := by
  obtain ⟨fd, F⟩ := T.f_over
  refine ⟨fd, F, Fun_okB (k := 2) F sc_over fun cdv A outer s H vs Q E hr hg h => ?_⟩
  have nd := sc_over.nd
  obtain ⟨x, y, rfl, p, q, r, s, ⟨a, rfl, ha⟩, ⟨b, rfl, hb⟩, b1, b2, b3, b4, hne, hq⟩ := h
  refine ⟨_, (pss_one (ps_ret (pe_callG (ok_reduced T) (hr.mono (by decide)) hg (takes_of rfl rfl rfl rfl) rfl T.g_reduced T.k_reduced (pa_cons (pe_op op_mulW (pe_ix ix_tup (pv 0) pe_int (fun _ _ => rfl)) (pe_ix ix_tup (pv 1) pe_int (fun _ _ => rfl))) (pa_cons (pe_op op_mulW (pe_ix ix_tup (pv 0) pe_int (fun _ _ => rfl)) (pe_ix ix_tup (pv 1) pe_int (fun _ _ => rfl))) pa_nil))))), ?_⟩
  exact ⟨_, rfl, _, _, _, _, rfl, rfl, ha, rfl, _, rfl, _, _, _, _, rfl, rfl, hb, rfl, _, _, rfl, rfl, (b1.mulW b4), _, rfl, _, _, _, _, rfl, rfl, ha, rfl, _, rfl, _, _, _, _, rfl, rfl, hb, rfl, _, _, rfl, rfl, (b2.mulW b3), _, _, rfl, _, _, rfl, rfl, hne, (b2.mul b3).mono (by decide), hq⟩
theorem ok_over (T : Txt P K mg D) : CallG P w K mg base 3 D.over [] (spOver K) := by
  obtain ⟨fd, F, B⟩ := fb_over (w := w) (base := base) T
  exact B.pos sp2_len (F.binds (ps := ["first", "second"]) fun _ _ _ _ _ _ us hl => match us, hl with | [_, _], _ => rfl)
abbrev N_multiply : List Str := ["first", "second"]
theorem sc_multiply : FnScope N_multiply ["first", "second"] (defScope s_multiply) := ⟨rfl, rfl, rfl, by decide +kernel, rfl, by decide +kernel, by decide +kernel⟩
theorem fb_multiply (T : Txt P K mg D) : ∃ fd, Fun K "multiply" "multiply" s_multiply D.multiply fd ∧ FnB P w K mg base 4 D.multiply fd ["first", "second"] (spMul K D.InvalidNumber) := by
  obtain ⟨fd, F⟩ := T.f_multiply
  refine ⟨fd, F, Fun_okB (k := 3) F sc_multiply fun cdv A outer s H vs Q E hr hg h => ?_⟩
  have nd := sc_multiply.nd
  obtain ⟨x, y, rfl, dx, dy, hx, hy, qe, qn⟩ := h
  refine ⟨_, (pss_cons (ps_expr (pe_callG (ok_check_numbers T) (hr.mono (by decide)) hg (takes_of rfl rfl rfl rfl) rfl T.g_check_numbers T.k_check_numbers (pa_cons (pv 0) (pa_cons (pv 1) pa_nil))))
        (pss_one (ps_ret (pe_callG (ok_times T) (hr.mono (by decide)) hg (takes_of rfl rfl rfl rfl) rfl T.g_times T.k_times (pa_cons (pv 0) (pa_cons (pv 1) pa_nil)))))), ?_⟩
  refine ⟨_, rfl, _, rfl, bin_in hx hy qe fun p q r s e1 e2 i1 i2 H1 ex n1 n2 => ?_⟩
  obtain ⟨b1, b2, b3, b4, hq⟩ := qn p q r s e1 e2 i1 i2
  exact ⟨_, rfl, _, rfl, _, _, rfl, p, q, r, s, n1, n2, b1, b2, b3, b4, ne0_of i1 i2, hq.ex ex⟩
theorem ok_multiply (T : Txt P K mg D) : CallG P w K mg base 4 D.multiply [] (spMul K D.InvalidNumber) := by
  obtain ⟨fd, F, B⟩ := fb_multiply (w := w) (base := base) T
  exact B.pos sp2_len (F.binds (ps := ["first", "second"]) fun _ _ _ _ _ _ us hl => match us, hl with | [_, _], _ => rfl)
abbrev N_divide : List Str := ["first", "second"]
theorem sc_divide : FnScope N_divide ["first", "second"] (defScope s_divide) := ⟨rfl, rfl, rfl, by decide +kernel, rfl, by decide +kernel, by decide +kernel⟩
theorem fb_divide (T : Txt P K mg D) : ∃ fd, Fun K "divide" "divide" s_divide D.divide fd ∧ FnB P w K mg base 4 D.divide fd ["first", "second"] (spDiv K D.InvalidNumber) := by
  obtain ⟨fd, F⟩ := T.f_divide
  refine ⟨fd, F, Fun_okB (k := 3) F sc_divide fun cdv A outer s H vs Q E hr hg h => ?_⟩
  have nd := sc_divide.nd
  obtain ⟨x, y, rfl, dx, dy, hx, hy, qe, qn⟩ := h
  refine ⟨_, (pss_cons (ps_expr (pe_callG (ok_check_numbers T) (hr.mono (by decide)) hg (takes_of rfl rfl rfl rfl) rfl T.g_check_numbers T.k_check_numbers (pa_cons (pv 0) (pa_cons (pv 1) pa_nil))))
        (pss_cons (ps_if (pt_cmpR (op_eqD hr.units) (pv 1) (pe_gcc (v := .ref D.ZERO) rfl T.g_ZERO) (nomark _)) (pss_one (ps_raise rfl (takes_of rfl rfl rfl rfl) (pmk_newX T.x_InvalidNumber (hr.mono (by decide)) T.k_InvalidNumber (T.z_InvalidNumber _ rfl) rfl T.g_InvalidNumber (pv 1)))) pss_nil)
        (pss_one (ps_ret (pe_callG (ok_over T) (hr.mono (by decide)) hg (takes_of rfl rfl rfl rfl) rfl T.g_over T.k_over (pa_cons (pv 0) (pa_cons (pv 1) pa_nil))))))), ?_⟩
  refine ⟨_, rfl, _, rfl, bin_in hx hy qe fun p q r s e1 e2 i1 i2 H1 ex n1 n2 => ?_⟩
  obtain ⟨b1, b2, b3, b4, hz, hq⟩ := qn p q r s e1 e2 i1 i2
  refine ⟨_, rfl, _, _, n2.d, (T.q_ZERO H1).d, shaped_num _ _, shaped_num _ _, _, rfl, ?_⟩
  rw [eqv_num]
  refine iteB (fun c => ?_) (fun c => ?_)
  · have hr0 : r = 0 := of_decide_eq_true (Bool.and_eq_true_iff.mp c).1
    exact ⟨_, rfl, fun dd hdd => hz hr0 dd _ (ex.trans (Evl.Ex.new hdd)) upd_same⟩
  · have hr0 : r ≠ 0 := fun z => by
      subst z
      have h1 := i2.2
      have h2 := i2.1
      have : s = 1 := by
        unfold Int.gcd at h1
        simp at h1
        omega
      subst this
      simp at c
    have hn : q * r ≠ 0 := Int.mul_ne_zero (by have := i1.1; omega) hr0
    exact ⟨_, rfl, _, rfl, _, _, rfl, p, q, r, s, n1, n2, b1, b2, b3, b4, hn, (hq hr0).ex ex⟩
theorem ok_divide (T : Txt P K mg D) : CallG P w K mg base 4 D.divide [] (spDiv K D.InvalidNumber) := by
  obtain ⟨fd, F, B⟩ := fb_divide (w := w) (base := base) T
  exact B.pos sp2_len (F.binds (ps := ["first", "second"]) fun _ _ _ _ _ _ us hl => match us, hl with | [_, _], _ => rfl)
abbrev N_check_positive : List Str := ["numbers", "thing"]
theorem sc_check_positive : FnScope N_check_positive ["numbers"] (defScope s_check_positive) := ⟨rfl, rfl, rfl, by decide +kernel, rfl, by decide +kernel, by decide +kernel⟩
def spCkPos (K : Frag) (C0 C1 : Addr) : Sp := sp1 fun x H Q E => ∃ p vs ds, x = .ref p ∧ SqT K H p vs ∧ DpAll K H vs ds ∧ vs.length ≤ 1000 ∧ (vs = [] → RErr H E C0 "count" (.int 0)) ∧
  (vs ≠ [] → (∀ z, fbP vs ds = some z → RErr H E C1 "thing" z) ∧ (fbP vs ds = none → ∀ H', Ex H H' → Q .non H'))
theorem fb_check_positive (T : Txt P K mg D) : ∃ fd, Fun K "check_positive" "check_positive" s_check_positive D.check_positive fd ∧ FnB P w K mg base 4 D.check_positive fd ["numbers"] (spCkPos K D.InvalidCount D.InvalidNumber) := by
  obtain ⟨fd, F⟩ := T.f_check_positive
  refine ⟨fd, F, Fun_okB (k := 3) F sc_check_positive fun cdv A outer s H vs Q E hr hg h => ?_⟩
  have nd := sc_check_positive.nd
  obtain ⟨x, rfl, p, vs, ds, rfl, hp, hds, hlen, q0, q1⟩ := h
  refine ⟨_, (pss_cons (ps_if (pt_cmpR op_eq (pe_callB call_len rfl T.n_len (by decide +kernel) (pa_cons (pv 0) pa_nil)) pe_int (nomark _)) (pss_one (ps_raise rfl (takes_of rfl rfl rfl rfl) (pmk_newX T.x_InvalidCount (hr.mono (by decide)) T.k_InvalidCount (T.z_InvalidCount _ rfl) rfl T.g_InvalidCount pe_int))) pss_nil)
        (pss_one (ps_for (passes_of rfl) rfl (pi_tup (pv 0)) (pg_name (i := 1) nd rfl (.inl rfl)) (pss_one (ps_if (pt_not (pt_val (pe_callG (ok_is_positive T) (hr.mono (by decide)) hg (takes_of rfl rfl rfl rfl) rfl T.g_is_positive T.k_is_positive (pa_cons (pv 1) pa_nil)))) (pss_one (ps_raise rfl (takes_of rfl rfl rfl rfl) (pmk_newX T.x_InvalidNumber (hr.mono (by decide)) T.k_InvalidNumber (T.z_InvalidNumber _ rfl) rfl T.g_InvalidNumber (pv 1)))) pss_nil))))), ?_⟩
  refine ⟨_, rfl, _, _, rfl, .inr ⟨_, hp, rfl⟩, rfl, _, rfl, iteB (fun c => ?_) (fun c => ?_)⟩
  · have h0 : vs = [] := List.length_eq_zero_iff.mp (by have := V.int.inj (of_decide_eq_true c); omega)
    exact fun dd hdd => q0 h0 dd _ (Evl.Ex.new hdd) upd_same
  · have h0 : vs ≠ [] := fun z => of_decide_eq_false c (by rw [z]; rfl)
    obtain ⟨qe, qn⟩ := q1 h0
    refine ⟨_, rfl, p, rfl, ⟨_, hp⟩, for_tup (K := K) (a := p) (xs := vs) (fun i σ H' => Ex H H' ∧ (∃ v, σ = [some (.ref p), v]) ∧ fbP (vs.drop i) (ds.drop i) = fbP vs ds)
      ⟨Evl.Ex.refl H, ⟨none, rfl⟩, rfl⟩ (fun i σ H' _ z => Evl.ex_t z.1 hp) ?_ ?_⟩
    · rintro i x σ H' hx ⟨ex, ⟨v, rfl⟩, hf⟩
      obtain ⟨d, e1, e2, e3⟩ := fbP_drop ((Car.ex ex).ds hds) hx
      refine ⟨_, rfl, _, rfl, d, e2, fun H2 ex2 => ⟨_, rfl, ?_⟩⟩
      refine iteB (fun c => ?_) (fun c => ?_)
      · have c' : isPosD d = false := by simpa using c
        rw [hf, if_neg (by rw [c']; simp)] at e3
        refine ⟨_, rfl, fun dd hdd => ?_⟩
        exact qe x e3 dd _ (ex.trans (ex2.trans (Evl.Ex.new hdd))) upd_same
      · have c' : isPosD d = true := by simpa using c
        rw [hf, if_pos c'] at e3
        exact ⟨ex.trans ex2, ⟨some x, rfl⟩, e3.symm⟩
    · rintro σ H' ⟨ex, ⟨v, rfl⟩, hf⟩
      have : fbP vs ds = none := by
        rw [← hf, List.drop_length]
        rfl
      exact qn this H' ex
theorem ok_check_positive (T : Txt P K mg D) : CallG P w K mg base 4 D.check_positive [] (spCkPos K D.InvalidCount D.InvalidNumber) := by
  obtain ⟨fd, F, B⟩ := fb_check_positive (w := w) (base := base) T
  exact B.pos sp1_len (F.binds (ps := ["numbers"]) fun _ _ _ _ _ _ us hl => match us, hl with | [_], _ => rfl)
abbrev N_measure_of : List Str := ["first", "second"]
theorem sc_measure_of : FnScope N_measure_of ["first", "second"] (defScope s_measure_of) := ⟨rfl, rfl, rfl, by decide +kernel, rfl, by decide +kernel, by decide +kernel⟩
def spMeas (K : Frag) : Sp := sp2 fun x y H Q _ => ∃ u v : Int × Int, NumAt K H x u.1 u.2 ∧ NumAt K H y v.1 v.2 ∧ Fit 4000 u ∧ Fit 4000 v ∧ RNum H Q (meas u v)
theorem fb_measure_of (T : Txt P K mg D) : ∃ fd, Fun K "measure_of" "measure_of" s_measure_of D.measure_of fd ∧ FnB P w K mg base 3 D.measure_of fd ["first", "second"] (spMeas K) := by
  obtain ⟨fd, F⟩ := T.f_measure_of
  refine ⟨fd, F, Fun_okB (k := 2) F sc_measure_of fun cdv A outer s H vs Q E hr hg h => ?_⟩
  have nd := sc_measure_of.nd
  obtain ⟨x, y, rfl, u, v, ⟨a, hxa, ha⟩, ⟨b, hyb, hb⟩, fx, fy, hq⟩ := h
  refine ⟨_, (pss_one (ps_ret (pe_callG (ok_reduced T) (hr.mono (by decide)) hg (takes_of rfl rfl rfl rfl) rfl T.g_reduced T.k_reduced (pa_cons (pe_callG (ok_common_divisor T) (hr.mono (by decide)) hg (takes_of rfl rfl rfl rfl) rfl T.g_common_divisor T.k_common_divisor (pa_cons (pe_op op_mulW (pe_ix ix_tup (pv 0) pe_int (fun _ _ => rfl)) (pe_ix ix_tup (pv 1) pe_int (fun _ _ => rfl))) (pa_cons (pe_op op_mulW (pe_ix ix_tup (pv 1) pe_int (fun _ _ => rfl)) (pe_ix ix_tup (pv 0) pe_int (fun _ _ => rfl))) pa_nil))) (pa_cons (pe_op op_mulW (pe_ix ix_tup (pv 0) pe_int (fun _ _ => rfl)) (pe_ix ix_tup (pv 1) pe_int (fun _ _ => rfl))) pa_nil))))), ?_⟩
  subst hxa hyb
  have hne : u.2 * v.2 ≠ 0 := Int.ne_of_gt (Int.mul_pos fx.q fy.q)
  refine ⟨_, rfl, _, _, _, _, rfl, rfl, ha, rfl, _, rfl, _, _, _, _, rfl, rfl, hb, rfl, _, _, rfl, rfl, (fx.b1.mulW fy.b2), _, rfl, _, _, _, _, rfl, rfl, hb, rfl, _, rfl, _, _, _, _, rfl, rfl, ha, rfl, _, _, rfl, rfl, (fy.b1.mulW fx.b2), _, _, rfl, _, _, rfl, rfl, ?_⟩
  refine ⟨_, rfl, _, _, _, _, rfl, rfl, ha, rfl, _, rfl, _, _, _, _, rfl, rfl, hb, rfl, _, _, rfl, rfl, (fx.b2.mulW fy.b2), _, _, rfl, _, _, rfl, rfl, hne, (fx.b2.mul fy.b2).mono (by decide), hq⟩
theorem ok_measure_of (T : Txt P K mg D) : CallG P w K mg base 3 D.measure_of [] (spMeas K) := by
  obtain ⟨fd, F, B⟩ := fb_measure_of (w := w) (base := base) T
  exact B.pos sp2_len (F.binds (ps := ["first", "second"]) fun _ _ _ _ _ _ us hl => match us, hl with | [_, _], _ => rfl)
abbrev N_greatest_measure : List Str := ["numbers", "found", "rest", "thing"]
theorem sc_greatest_measure : FnScope N_greatest_measure ["numbers"] (defScope s_greatest_measure) := ⟨rfl, rfl, rfl, by decide +kernel, rfl, by decide +kernel, by decide +kernel⟩
theorem fb_greatest_measure (T : Txt P K mg D) : ∃ fd, Fun K "greatest_measure" "greatest_measure" s_greatest_measure D.greatest_measure fd ∧ FnB P w K mg base 5 D.greatest_measure fd ["numbers"] (spFold meas K D.InvalidCount D.InvalidNumber) := by
  obtain ⟨fd, F⟩ := T.f_greatest_measure
  refine ⟨fd, F, Fun_okB (k := 4) F sc_greatest_measure fun cdv A outer s H vs Q E hr hg h => ?_⟩
  have nd := sc_greatest_measure.nd
  obtain ⟨x, rfl, p, vs, ds, rfl, hp, hds, hlen, q0, q1⟩ := h
  refine ⟨_, (pss_cons (ps_expr (pe_callG (ok_check_positive T) (hr.mono (by decide)) hg (takes_of rfl rfl rfl rfl) rfl T.g_check_positive T.k_check_positive (pa_cons (pv 0) pa_nil)))
        (pss_cons (ps_asg (pv 0) (pg_star rfl (pgs_cons (pg_name (i := 1) nd rfl (.inl rfl)) (pgs_star (pg_name (i := 2) nd rfl (.inl rfl)) pgs_nil))))
        (pss_cons (ps_for (passes_of rfl) rfl (pi_list (pv 2)) (pg_name (i := 3) nd rfl (.inl rfl)) (pss_one (ps_set (i := 1) nd rfl (.inl rfl) (pe_callG (ok_measure_of T) (hr.mono (by decide)) hg (takes_of rfl rfl rfl rfl) rfl T.g_measure_of T.k_measure_of (pa_cons (pv 1) (pa_cons (pv 3) pa_nil))))))
        (pss_one (ps_ret (pv 1)))))), ?_⟩
  refine ⟨_, rfl, _, rfl, p, vs, ds, rfl, hp, hds, by omega, q0, fun h0 => ⟨(q1 h0).1, fun hn H1 e1 => ?_⟩⟩
  obtain ⟨_, q2⟩ := q1 h0
  obtain ⟨ys, rfl, hy⟩ := fbP_none (Rm.DpAll.len hds) hn
  cases ys with
  | nil => exact absurd (List.length_eq_zero_iff.mp (Rm.DpAll.len hds)) h0
  | cons x0 xs =>
    cases hds with
    | @cons v0 vs _ _ d0 dr =>
      obtain ⟨hf, q3⟩ := q2 x0 xs rfl hy
      have hlx : vs.length = xs.length := by rw [Rm.DpAll.len dr]; simp [numD]
      refine ⟨_, rfl, p, v0, vs, rfl, (Car.ex e1).t hp, by simp at hlen; omega, fun rl hrl => ?_⟩
      have e2 := e1.trans (Evl.Ex.new (o := .lst vs) hrl)
      refine ⟨_, _, rfl, _, _, rfl, rfl, ?_⟩
      refine ⟨_, rfl, rl, rfl, ⟨_, SqL.of upd_same⟩, for_list (K := K) (a := rl) (xs := vs) (fun i σ H' => ∃ fv th, σ = [some (.ref p), some fv, some (.ref rl), th] ∧ NumAt K H' fv ((xs.take i).foldl meas x0).1 ((xs.take i).foldl meas x0).2 ∧ Fit (bb i) ((xs.take i).foldl meas x0) ∧ Ex (upd H1 rl (.lst vs)) H')
        ⟨v0, none, rfl, NumAt.of ((Car.ex e2).d d0), hf x0 List.mem_cons_self, Evl.Ex.refl _⟩ (fun i σ H' _ z => by obtain ⟨_, _, _, _, _, e⟩ := z; exact Evl.ex_l e (SqL.of upd_same)) ?_ ?_⟩
      · rintro i x σ H' hx ⟨fv, th, rfl, nf, ff, e⟩
        have hi : i < xs.length := by
          rw [← hlx]
          by_cases hi : i < vs.length
          · exact hi
          · rw [List.getElem?_eq_none (by omega)] at hx; cases hx
        obtain ⟨y, hy1, hy2⟩ : ∃ y, xs[i]? = some y ∧ Dp K H x (.tuple [.int y.1, .int y.2]) := by
          obtain ⟨d, k1, k2, _⟩ := fbP_drop dr hx
          obtain ⟨y, k3, k4⟩ : ∃ y, xs[i]? = some y ∧ d = .tuple [.int y.1, .int y.2] := by
            have : (numD xs)[i]? = some d := k1
            unfold numD at this
            rw [List.getElem?_map, List.getElem?_eq_getElem hi] at this
            exact ⟨xs[i], List.getElem?_eq_getElem hi, by simpa using this.symm⟩
          exact ⟨y, k3, by rw [← k4]; exact k2⟩
        have ny := NumAt.of ((Car.ex (e2.trans e)).d hy2)
        have fy : Fit 100 y := hf y (List.mem_cons_of_mem _ (List.mem_of_getElem? hy1))
        have hi3 : i ≤ 2 := by simp at hlen; omega
        have ff' : Fit 2200 ((xs.take i).foldl meas x0) := ff.mono (bb_le (by omega))
        have ft : (xs.take (i + 1)).foldl meas x0 = meas ((xs.take i).foldl meas x0) y := by
          rw [List.take_add_one, hy1, List.foldl_append]
          rfl
        generalize (xs.take i).foldl meas x0 = g at *
        refine ⟨_, rfl, _, rfl, _, _, rfl, g, y, nf, ny, ff'.mono (by decide), fy.mono (by decide), fun t H2 ht e3 h3 => ?_⟩
        refine ⟨_, _, rfl, ?_, ?_, e.trans e3⟩
        · rw [ft]
          exact NumAt.new h3
        · rw [ft]
          exact (ff.meas fy).mono (by show bb i + 100 ≤ (bb i + 100) + (bb i + 100); omega)
      · rintro σ H' ⟨fv, th, rfl, nf, ff, e⟩
        rw [hlx, List.take_length] at nf
        exact ⟨_, rfl, q3 fv H' nf (e2.trans e)⟩
theorem ok_greatest_measure (T : Txt P K mg D) : CallG P w K mg base 5 D.greatest_measure [] (fun vs H Q E => vs.length ≤ sizeLine ∧ ∀ p, H p = none → (spFold meas K D.InvalidCount D.InvalidNumber) [.ref p] (upd H p (.tup vs)) Q E) := by
  obtain ⟨fd, F, B⟩ := fb_greatest_measure (w := w) (base := base) T
  exact FnB.star (pv := "numbers") B (by obtain ⟨_, _, _, _, _, _, _, _, _, rfl, _⟩ := F.ex; intro rest; cases rest <;> rfl)
abbrev N_least_multiple : List Str := ["numbers", "found", "rest", "thing"]
theorem sc_least_multiple : FnScope N_least_multiple ["numbers"] (defScope s_least_multiple) := ⟨rfl, rfl, rfl, by decide +kernel, rfl, by decide +kernel, by decide +kernel⟩
theorem fb_least_multiple (T : Txt P K mg D) : ∃ fd, Fun K "least_multiple" "least_multiple" s_least_multiple D.least_multiple fd ∧ FnB P w K mg base 5 D.least_multiple fd ["numbers"] (spFold lmul K D.InvalidCount D.InvalidNumber) := by
  obtain ⟨fd, F⟩ := T.f_least_multiple
  refine ⟨fd, F, Fun_okB (k := 4) F sc_least_multiple fun cdv A outer s H vs Q E hr hg h => ?_⟩
  have nd := sc_least_multiple.nd
  obtain ⟨x, rfl, p, vs, ds, rfl, hp, hds, hlen, q0, q1⟩ := h
  refine ⟨_, (pss_cons (ps_expr (pe_callG (ok_check_positive T) (hr.mono (by decide)) hg (takes_of rfl rfl rfl rfl) rfl T.g_check_positive T.k_check_positive (pa_cons (pv 0) pa_nil)))
        (pss_cons (ps_asg (pv 0) (pg_star rfl (pgs_cons (pg_name (i := 1) nd rfl (.inl rfl)) (pgs_star (pg_name (i := 2) nd rfl (.inl rfl)) pgs_nil))))
        (pss_cons (ps_for (passes_of rfl) rfl (pi_list (pv 2)) (pg_name (i := 3) nd rfl (.inl rfl)) (pss_one (ps_set (i := 1) nd rfl (.inl rfl) (pe_callG (ok_over T) (hr.mono (by decide)) hg (takes_of rfl rfl rfl rfl) rfl T.g_over T.k_over (pa_cons (pe_callG (ok_times T) (hr.mono (by decide)) hg (takes_of rfl rfl rfl rfl) rfl T.g_times T.k_times (pa_cons (pv 1) (pa_cons (pv 3) pa_nil))) (pa_cons (pe_callG (ok_measure_of T) (hr.mono (by decide)) hg (takes_of rfl rfl rfl rfl) rfl T.g_measure_of T.k_measure_of (pa_cons (pv 1) (pa_cons (pv 3) pa_nil))) pa_nil))))))
        (pss_one (ps_ret (pv 1)))))), ?_⟩
  refine ⟨_, rfl, _, rfl, p, vs, ds, rfl, hp, hds, by omega, q0, fun h0 => ⟨(q1 h0).1, fun hn H1 e1 => ?_⟩⟩
  obtain ⟨_, q2⟩ := q1 h0
  obtain ⟨ys, rfl, hy⟩ := fbP_none (Rm.DpAll.len hds) hn
  cases ys with
  | nil => exact absurd (List.length_eq_zero_iff.mp (Rm.DpAll.len hds)) h0
  | cons x0 xs =>
    cases hds with
    | @cons v0 vs _ _ d0 dr =>
      obtain ⟨hf, q3⟩ := q2 x0 xs rfl hy
      have hlx : vs.length = xs.length := by rw [Rm.DpAll.len dr]; simp [numD]
      refine ⟨_, rfl, p, v0, vs, rfl, (Car.ex e1).t hp, by simp at hlen; omega, fun rl hrl => ?_⟩
      have e2 := e1.trans (Evl.Ex.new (o := .lst vs) hrl)
      refine ⟨_, _, rfl, _, _, rfl, rfl, ?_⟩
      refine ⟨_, rfl, rl, rfl, ⟨_, SqL.of upd_same⟩, for_list (K := K) (a := rl) (xs := vs) (fun i σ H' => ∃ fv th, σ = [some (.ref p), some fv, some (.ref rl), th] ∧ NumAt K H' fv ((xs.take i).foldl lmul x0).1 ((xs.take i).foldl lmul x0).2 ∧ Fit (bb i) ((xs.take i).foldl lmul x0) ∧ Ex (upd H1 rl (.lst vs)) H')
        ⟨v0, none, rfl, NumAt.of ((Car.ex e2).d d0), hf x0 List.mem_cons_self, Evl.Ex.refl _⟩ (fun i σ H' _ z => by obtain ⟨_, _, _, _, _, e⟩ := z; exact Evl.ex_l e (SqL.of upd_same)) ?_ ?_⟩
      · rintro i x σ H' hx ⟨fv, th, rfl, nf, ff, e⟩
        have hi : i < xs.length := by
          rw [← hlx]
          by_cases hi : i < vs.length
          · exact hi
          · rw [List.getElem?_eq_none (by omega)] at hx; cases hx
        obtain ⟨y, hy1, hy2⟩ : ∃ y, xs[i]? = some y ∧ Dp K H x (.tuple [.int y.1, .int y.2]) := by
          obtain ⟨d, k1, k2, _⟩ := fbP_drop dr hx
          obtain ⟨y, k3, k4⟩ : ∃ y, xs[i]? = some y ∧ d = .tuple [.int y.1, .int y.2] := by
            have : (numD xs)[i]? = some d := k1
            unfold numD at this
            rw [List.getElem?_map, List.getElem?_eq_getElem hi] at this
            exact ⟨xs[i], List.getElem?_eq_getElem hi, by simpa using this.symm⟩
          exact ⟨y, k3, by rw [← k4]; exact k2⟩
        have ny := NumAt.of ((Car.ex (e2.trans e)).d hy2)
        have fy : Fit 100 y := hf y (List.mem_cons_of_mem _ (List.mem_of_getElem? hy1))
        have hi3 : i ≤ 2 := by simp at hlen; omega
        have ff' : Fit 2200 ((xs.take i).foldl lmul x0) := ff.mono (bb_le (by omega))
        have ft : (xs.take (i + 1)).foldl lmul x0 = lmul ((xs.take i).foldl lmul x0) y := by
          rw [List.take_add_one, hy1, List.foldl_append]
          rfl
        generalize (xs.take i).foldl lmul x0 = g at *
        have w4 := ff'.mono (show 2200 ≤ 4000 by decide)
        have y4 := fy.mono (show 100 ≤ 4000 by decide)
        refine ⟨_, rfl, _, rfl, _, _, rfl, g.1, g.2, y.1, y.2, nf, ny, w4.b1, w4.b2, y4.b1, y4.b2, Int.ne_of_gt (Int.mul_pos ff.q fy.q), fun t H2 ht e3 h3 => ?_⟩
        refine ⟨_, rfl, _, rfl, _, _, rfl, g, y, nf.c (Car.ex e3), ny.c (Car.ex e3), w4, y4, fun m H3 hm e4 h4 => ?_⟩
        have tf := (ff'.times fy).mono (show 2200 + 100 ≤ 4000 by decide)
        have mf := (ff'.meas fy).mono (show 2200 + 100 ≤ 4000 by decide)
        refine ⟨_, _, rfl, _, _, _, _, (NumAt.new h3).c (Car.ex e4), NumAt.new h4, tf.b1, tf.b2, mf.b1, mf.b2, Int.ne_of_gt (Int.mul_pos tf.q mf.p), fun r H4 hr' e5 h5 => ?_⟩
        refine ⟨_, _, rfl, ?_, ?_, (e.trans e3).trans (e4.trans e5)⟩
        · rw [ft]
          exact NumAt.new h5
        · rw [ft]
          exact ff.lmul fy
      · rintro σ H' ⟨fv, th, rfl, nf, ff, e⟩
        rw [hlx, List.take_length] at nf
        exact ⟨_, rfl, q3 fv H' nf (e2.trans e)⟩
theorem ok_least_multiple (T : Txt P K mg D) : CallG P w K mg base 5 D.least_multiple [] (fun vs H Q E => vs.length ≤ sizeLine ∧ ∀ p, H p = none → (spFold lmul K D.InvalidCount D.InvalidNumber) [.ref p] (upd H p (.tup vs)) Q E) := by
  obtain ⟨fd, F, B⟩ := fb_least_multiple (w := w) (base := base) T
  exact FnB.star (pv := "numbers") B (by obtain ⟨_, _, _, _, _, _, _, _, _, rfl, _⟩ := F.ex; intro rest; cases rest <;> rfl)
abbrev N__law_begin : List Str := ["script"]
theorem sc__law_begin : FnScope N__law_begin ["script"] (defScope s__law_begin) := ⟨rfl, rfl, rfl, by decide +kernel, rfl, by decide +kernel, by decide +kernel⟩
theorem fb__law_begin (T : Txt P K mg D) : ∃ fd, Fun K "_law_begin" "_law_begin" s__law_begin D._law_begin fd ∧ FnB P w K mg base 1 D._law_begin fd ["script"] (spBegin K) := by
  obtain ⟨fd, F⟩ := T.f__law_begin
  refine ⟨fd, F, Fun_okB (k := 0) F sc__law_begin fun cdv A outer s H vs Q E hr hg h => ?_⟩
  have nd := sc__law_begin.nd
  obtain ⟨x, rfl, a, ns, rfl, hs, hl, q⟩ := h
  refine ⟨_, (pss_one (ps_ret (pe_disp (pps_cons pe_str (pe_op op_catL (pv 0) (pe_lst (pa_cons pe_int pa_nil))) (pps_cons pe_str pe_int (pps_cons pe_str pe_int (pps_cons pe_str pe_int pps_nil)))) (by rfl) (by rfl) (fun z => by cases z) (by decide)))), ?_⟩
  refine fun p hp => ⟨_, rfl, by rw [sizeLine_eq]; show 1 ≤ 16777216; decide, fun b hb => ⟨a, b, ns.map V.int, [.int 0], rfl, rfl, (Car.ex ((Evl.Ex.new hp).trans (Evl.Ex.new hb))).l hs, SqL.of upd_same, by rw [sizeLine_eq, List.length_map]; show ns.length + 1 ≤ 16777216; omega, fun c hc => ?_⟩⟩
  have bp : p ≠ b := ne_of_none upd_same hb
  have cb : b ≠ c := ne_of_none upd_same hc
  have cp : p ≠ c := fun z => by rw [← z, upd_ne bp, upd_same] at hc; cases hc
  refine ⟨by rw [upd_ne cp, upd_ne bp, upd_same], drawD c 0 0 0, rfl, by show 4 ≤ 15; decide, ?_⟩
  have em : mergeK [] (drawD c 0 0 0) = drawD c 0 0 0 := by kernel_rfl
  rw [em]
  refine q p _ hp (fun x o e => ?_) ⟨c, ns ++ [0], 0, 0, 0, upd_same, .inl (.inl ?_), by simp, by rw [List.length_append]; show ns.length + 1 ≤ 1000; omega, by decide, by decide, by decide, by decide⟩
  · have xp := ne_of_none e hp
    have e1 : upd H p (.dK []) x = some o := by rw [upd_ne xp, e]
    have xb := ne_of_none e1 hb
    have e2 : upd (upd H p (.dK [])) b (.lst [.int 0]) x = some o := by rw [upd_ne xb, e1]
    have xc := ne_of_none e2 hc
    rw [upd_ne xp, upd_ne xc, e2]
  · rw [upd_ne (Ne.symm cp), upd_same, List.map_append]
    rfl
theorem ok__law_begin (T : Txt P K mg D) : CallG P w K mg base 1 D._law_begin [] (spBegin K) := by
  obtain ⟨fd, F, B⟩ := fb__law_begin (w := w) (base := base) T
  exact B.pos sp1_len (F.binds (ps := ["script"]) fun _ _ _ _ _ _ us hl => match us, hl with | [_], _ => rfl)
abbrev N__law_mixed : List Str := ["cell", "k", "mixed"]
theorem sc__law_mixed : FnScope N__law_mixed ["cell", "k"] (defScope s__law_mixed) := ⟨rfl, rfl, rfl, by decide +kernel, rfl, by decide +kernel, by decide +kernel⟩
theorem fb__law_mixed (T : Txt P K mg D) : ∃ fd, Fun K "_law_mixed" "_law_mixed" s__law_mixed D._law_mixed fd ∧ FnB P w K mg base 1 D._law_mixed fd ["cell", "k"] spMixed := by
  obtain ⟨fd, F⟩ := T.f__law_mixed
  refine ⟨fd, F, Fun_okB (k := 0) F sc__law_mixed fun cdv A outer s H vs Q E hr hg h => ?_⟩
  have nd := sc__law_mixed.nd
  obtain ⟨x, y, rfl, c, k, rfl, rfl, h0, h1, q⟩ := h
  refine ⟨_, (pss_cons (ps_set (i := 2) nd rfl (.inl rfl) (pe_op op_mod (pe_op op_add (pe_op op_add (pe_op op_add (pe_op op_mod (pv 0) pe_int) (pe_op op_mulW (pe_op op_mulW pe_int (pv 1)) (pv 1))) (pe_op op_mulW pe_int (pv 1))) pe_int) pe_int))
        (pss_cons (ps_set (i := 2) nd rfl (.inl rfl) (pe_op op_mod (pe_op op_mulW (pe_op op_mod (pe_op op_mulW (pv 2) (pv 2)) pe_int) (pv 2)) pe_int))
        (pss_one (ps_ret (pe_op op_fdivW (pe_op op_mod (pe_op op_mulW (pv 2) (pe_op op_add pe_int (pe_op op_mulW pe_int (pe_op op_mod (pv 1) pe_int)))) pe_int) pe_int))))), ?_⟩
  have bk : Bd 60 k := by unfold Bd; omega
  have md : ∀ (n : Nat) (a j : Int), 0 < j → j < 2 ^ n → Bd n (a % j) := fun n a j h0 h1 => by
    unfold Bd
    have z0 := Int.emod_nonneg a (show j ≠ 0 by omega)
    have z1 := Int.emod_lt_of_pos a h0
    have : ((2 ^ n : Nat) : Int) = 2 ^ n := by simp
    omega
  have b1 : Bd 13 7919 := by unfold Bd; decide
  have b2 : Bd 5 31 := by unfold Bd; decide
  have b3 : Bd 2 2 := by unfold Bd; decide
  refine ⟨_, rfl, _, _, rfl, rfl, show (0 : Int) < 1000000007 by decide, _, rfl, _, _, rfl, rfl, b1.mulW bk, _, rfl, _, _, rfl, rfl, (b1.mul bk).mulW bk, _, _, rfl, rfl, _, rfl, _, _, rfl, rfl, b2.mulW bk, _, _, rfl, rfl, _, _, rfl, rfl, _, _, rfl, rfl, show (0 : Int) < 2147483647 by decide, ?_⟩
  have bm := md 31 (c % 1000000007 + 7919 * k * k + 31 * k + 7) 2147483647 (by decide) (by decide)
  refine ⟨_, rfl, _, rfl, _, _, rfl, rfl, bm.mulW bm, _, _, rfl, rfl, show (0 : Int) < 2147483647 by decide, _, rfl, _, _, rfl, rfl, (md 31 _ _ (by decide) (by decide)).mulW bm, _, _, rfl, rfl, show (0 : Int) < 2147483629 by decide, ?_⟩
  refine ⟨_, rfl, _, rfl, _, _, rfl, rfl, show (0 : Int) < 1000 by decide, _, _, rfl, rfl, b3.mulW (md 10 k 1000 (by decide) (by decide)), _, _, rfl, rfl, _, _, rfl, rfl, (md 31 _ _ (by decide) (by decide)).mulW (n := 20) ?_, _, _, rfl, rfl, show (0 : Int) < 2147483647 by decide, _, _, rfl, rfl, ⟨by decide, by decide⟩, q _⟩
  exact Bd.add (m := 19) (by unfold Bd; decide) ((b3.mul (md 10 k 1000 (by decide) (by decide))).mono (by decide))
theorem ok__law_mixed (T : Txt P K mg D) : CallG P w K mg base 1 D._law_mixed [] spMixed := by
  obtain ⟨fd, F, B⟩ := fb__law_mixed (w := w) (base := base) T
  exact B.pos sp2_len (F.binds (ps := ["cell", "k"]) fun _ _ _ _ _ _ us hl => match us, hl with | [_, _], _ => rfl)
abbrev N__law_next : List Str := ["draw", "bound", "found", "cells", "cell"]
theorem sc__law_next : FnScope N__law_next ["draw", "bound"] (defScope s__law_next) := ⟨rfl, rfl, rfl, by decide +kernel, rfl, by decide +kernel, by decide +kernel⟩
theorem fb__law_next (T : Txt P K mg D) : ∃ fd, Fun K "_law_next" "_law_next" s__law_next D._law_next fd ∧ FnB P w K mg base 2 D._law_next fd ["draw", "bound"] (spNext K) := by
  obtain ⟨fd, F⟩ := T.f__law_next
  refine ⟨fd, F, Fun_okB (k := 1) F sc__law_next fun cdv A outer s H vs Q E hr hg h => ?_⟩
  have nd := sc__law_next.nd
  obtain ⟨x, y, rfl, d, n, b, rfl, rfl, ⟨c, cells, at', l, u, hd, hc, hne, hlen, a0, a1, u0, u1⟩, hn, b0, b1, q⟩ := h
  refine ⟨_, (pss_cons (ps_if (pt_cmpR op_gt (pe_dget (hu_of hr) (pv 0) pe_str (fun _ _ => rfl)) pe_int (nomark _)) (pss_cons (ps_set (i := 2) nd rfl (.inl rfl) (pe_op op_mod (pe_dget (hu_of hr) (pv 0) pe_str (fun _ _ => rfl)) (pv 1)))
        (pss_cons (ps_dput (hu_of hr) (pv 0) pe_str (pe_op op_fdivW (pe_dget (hu_of hr) (pv 0) pe_str (fun _ _ => rfl)) (pv 1)) rfl)
        (pss_one (ps_ret (pv 2))))) pss_nil)
        (pss_cons (ps_set (i := 3) nd rfl (.inl rfl) (pe_dget (hu_of hr) (pv 0) pe_str (fun _ _ => rfl)))
        (pss_cons (ps_set (i := 4) nd rfl (.inl rfl) (pe_ix ix_list (pv 3) (pe_op op_mod (pe_dget (hu_of hr) (pv 0) pe_str (fun _ _ => rfl)) (pe_callB call_len rfl T.n_len (by decide +kernel) (pa_cons (pv 3) pa_nil))) (fun _ _ => rfl)))
        (pss_cons (ps_dput (hu_of hr) (pv 0) pe_str (pe_op op_add (pe_dget (hu_of hr) (pv 0) pe_str (fun _ _ => rfl)) pe_int) rfl)
        (pss_cons (ps_if (PW.pt (pw_and (pt_cmpR op_ge (pv 4) (pe_op op_pow pe_int pe_int) (nomark _)) (pw_and1 (pt_cmpR op_le (pe_dget (hu_of hr) (pv 0) pe_str (fun _ _ => rfl)) (pe_callB call_len rfl T.n_len (by decide +kernel) (pa_cons (pv 3) pa_nil)) (nomark _))))) (pss_cons (ps_dput (hu_of hr) (pv 0) pe_str (pe_op op_fdivW (pv 4) (pv 1)) rfl)
        (pss_one (ps_ret (pe_op op_mod (pv 4) (pv 1))))) pss_nil)
        (pss_cons (ps_dput (hu_of hr) (pv 0) pe_str (pe_op op_add (pe_dget (hu_of hr) (pv 0) pe_str (fun _ _ => rfl)) pe_int) rfl)
        (pss_one (ps_ret (pe_op op_mod (pe_callG (ok__law_mixed T) (hr.mono (by decide)) hg (takes_of rfl rfl rfl rfl) rfl T.g__law_mixed T.k__law_mixed (pa_cons (pe_callG (ok__law_mixed T) (hr.mono (by decide)) hg (takes_of rfl rfl rfl rfl) rfl T.g__law_mixed T.k__law_mixed (pa_cons (pv 4) (pa_cons (pe_dget (hu_of hr) (pv 0) pe_str (fun _ _ => rfl)) pa_nil))) (pa_cons (pe_dget (hu_of hr) (pv 0) pe_str (fun _ _ => rfl)) pa_nil))) (pv 1)))))))))), ?_⟩
  have hB : Bd 60 b := by unfold Bd; omega
  have hdv : ∀ i, CDivW i b := fun i => ⟨b0, Nat.lt_trans (hB.log (by decide)) (by decide)⟩
  have fin : ∀ (i l' a' u' : Int) (H' : Hp), Exb d H H' → 0 ≤ a' → a' ≤ (n + 1 : Nat) → 0 ≤ u' → u' ≤ (n + 1 : Nat) → H' d = some (.dK (drawD c a' l' u')) → Q (.int (i % b)) H' := fun i l' a' u' H' e h1 h2 h3 h4 h =>
    q _ (Int.emod_nonneg i (by omega)) (Int.emod_lt_of_pos i b0) H' ⟨c, cells, a', l', u', h, (Car.exb hd e).l hc, hne, hlen, h1, h2, h3, h4⟩ e
  have hnn : (n : Int) < 2 ^ 50 := by
    have : ((2 ^ 50 : Nat) : Int) = 2 ^ 50 := by simp
    omega
  refine ⟨_, rfl, d, _, rfl, dget_left hd, _, _, rfl, rfl, _, rfl, ?_⟩
  refine iteB (fun g => ?_) (fun g => ?_)
  · refine ⟨_, rfl, d, _, rfl, dget_left hd, _, rfl, _, _, rfl, rfl, b0, ?_⟩
    refine ⟨_, rfl, d, _, rfl, dget_left hd, _, rfl, _, _, rfl, rfl, hdv _, _, rfl, d, _, rfl, dput_left hd, _, rfl, ?_⟩
    exact fin l _ at' u _ (Exb.refl.upd) a0 (by omega) u0 (by omega) upd_same
  · have hl : 0 < cells.length := List.length_pos_iff.mpr hne
    refine ⟨_, rfl, d, _, rfl, dget_cells hd, _, rfl, _, rfl, d, _, rfl, dget_at hd, _, rfl, _, _, rfl, .inl ⟨_, hc, rfl⟩, _, _, rfl, rfl, ?_⟩
    have hlm : (cells.map V.int).length = cells.length := List.length_map ..
    rw [hlm]
    refine ⟨by omega, ?_⟩
    have mp : (at' % (cells.length : Int)).toNat < cells.length ∧ (((at' % (cells.length : Int)).toNat : Nat) : Int) = at' % (cells.length : Int) := by
      have h1 : 0 ≤ at' % (cells.length : Int) := Int.emod_nonneg _ (by omega)
      have h2 : at' % (cells.length : Int) < (cells.length : Int) := Int.emod_lt_of_pos _ (by omega)
      omega
    obtain ⟨cv, hcv⟩ : ∃ cv, atI (cells.map V.int) (at' % (cells.length : Int)) = some (.int cv) := by
      refine ⟨cells[(at' % (cells.length : Int)).toNat]'(mp.1), ?_⟩
      have h1 : ixN (cells.map V.int).length (at' % (cells.length : Int)) = some (at' % (cells.length : Int)).toNat := by
        have := mp.2
        have := mp.1
        unfold ixN
        rw [if_pos (by omega), if_pos (by rw [hlm]; omega)]
      unfold atI
      rw [h1]
      show (cells.map V.int)[(at' % (cells.length : Int)).toNat]? = _
      rw [List.getElem?_map, List.getElem?_eq_getElem mp.1]
      rfl
    refine ⟨c, _, _, _, rfl, rfl, hc, hcv, ?_⟩
    refine ⟨_, rfl, d, _, rfl, dget_at hd, _, _, rfl, rfl, _, rfl, d, _, rfl, dput_at hd, ?_⟩
    have hc1 : SqL K (upd H d (.dK (drawD c (at' + 1) l u))) c (cells.map V.int) := (Car.exb hd Exb.refl.upd).l hc
    have p1 : CPow 10 18 := ⟨by decide, by decide, by decide⟩
    refine ⟨_, rfl, _, _, rfl, rfl, p1, _, _, rfl, rfl, _, rfl, iteB (fun g1 => ⟨_, rfl, d, _, rfl, dget_at upd_same, _, rfl, _, _, rfl, .inl ⟨_, hc1, rfl⟩, _, _, rfl, rfl, _, rfl, iteB (fun g2 => ?_) (fun g2 => ?_)⟩) (fun g1 => iteF ?_)⟩
    · refine ⟨_, rfl, _, rfl, _, _, rfl, rfl, hdv _, _, rfl, d, _, rfl, dput_left upd_same, _, rfl, _, rfl, _, _, rfl, rfl, b0, ?_⟩
      exact fin cv _ (at' + 1) u _ (Exb.refl.upd.upd) (by omega) (by omega) u0 (by omega) upd_same
    all_goals
      refine ⟨_, rfl, d, _, rfl, dget_used upd_same, _, _, rfl, rfl, _, rfl, d, _, rfl, dput_used upd_same, ?_⟩
      refine ⟨_, rfl, _, rfl, d, _, rfl, dget_at upd_same, _, _, rfl, cv, _, rfl, rfl, by omega, by omega, fun r1 => ?_⟩
      refine ⟨_, rfl, d, _, rfl, dget_used upd_same, _, _, rfl, r1, _, rfl, rfl, by omega, by omega, fun r2 => ?_⟩
      refine ⟨_, rfl, _, _, rfl, rfl, b0, ?_⟩
      exact fin r2 _ (at' + 1) (u + 1) _ (Exb.refl.upd.upd) (by omega) (by omega) (by omega) (by omega) upd_same
theorem ok__law_next (T : Txt P K mg D) : CallG P w K mg base 2 D._law_next [] (spNext K) := by
  obtain ⟨fd, F, B⟩ := fb__law_next (w := w) (base := base) T
  exact B.pos sp2_len (F.binds (ps := ["draw", "bound"]) fun _ _ _ _ _ _ us hl => match us, hl with | [_, _], _ => rfl)
abbrev N__law_divisor : List Str := ["one", "other"]
theorem sc__law_divisor : FnScope N__law_divisor ["one", "other"] (defScope s__law_divisor) := ⟨rfl, rfl, rfl, by decide +kernel, rfl, by decide +kernel, by decide +kernel⟩
def spDivN : Sp := sp2 fun x y H Q _ => ∃ a b : Nat, x = .int a ∧ y = .int b ∧ Q (.int (Nat.gcd a b : Nat)) H
theorem fb__law_divisor (T : Txt P K mg D) : ∃ fd, Fun K "_law_divisor" "_law_divisor" s__law_divisor D._law_divisor fd ∧ FnB P w K mg base 1 D._law_divisor fd ["one", "other"] spDivN := by
  obtain ⟨fd, F⟩ := T.f__law_divisor
  refine ⟨fd, F, Fun_okB (k := 0) F sc__law_divisor fun cdv A outer s H vs Q E hr hg h => ?_⟩
  have nd := sc__law_divisor.nd
  obtain ⟨x, y, rfl, a, b, rfl, rfl, q⟩ := h
  refine ⟨_, (pss_cons (ps_while (passes_of rfl) (pt_cmpR op_ne (pv 1) pe_int (nomark _)) (pss_one (ps_par rfl nd (i := 0) (j := 1) rfl rfl (by decide) rfl rfl (pa_cons (pv 1) (pa_cons (pe_op op_mod (pv 0) (pv 1)) pa_nil)) (by rfl))))
        (pss_one (ps_ret (pv 0)))), ?_⟩
  refine while_by (fun σ H' => ∃ x y : Nat, σ = [some (.int x), some (.int y)] ∧ H' = H ∧ Nat.gcd x y = Nat.gcd a b)
    (fun σ _ => match σ with | [_, some (.int y)] => y.toNat | _ => 0) ⟨a, b, rfl, rfl, rfl⟩ ?_ ?_
  · rintro σ H' ⟨x, y, rfl, rfl, hg'⟩
    refine ⟨_, rfl, rfl, _, rfl, iteB (fun c => ?_) (fun c => ?_)⟩
    · have y0 : 0 < y := Nat.pos_of_ne_zero fun z => by simp [z] at c
      refine ⟨_, rfl, _, rfl, _, rfl, _, _, rfl, rfl, by omega, _, _, rfl, ⟨y, x % y, by simp, rfl, by rw [← hg', Nat.gcd_comm x y, Nat.gcd_rec y x, Nat.gcd_comm]⟩, ?_⟩
      have := Nat.mod_lt x y0
      show ((x : Int) % (y : Int)).toNat < (y : Int).toNat
      omega
    · have y0 : y = 0 := by simpa using c
      subst y0
      rw [Nat.gcd_zero_right] at hg'
      exact ⟨_, rfl, by rw [hg']; exact q⟩
  · rintro σ H' Q1 Q2 hq ⟨v, e, hs, k, e3, z⟩
    exact ⟨v, e, hs, k, e3, hq _ _ z⟩
theorem ok__law_divisor (T : Txt P K mg D) : CallG P w K mg base 1 D._law_divisor [] spDivN := by
  obtain ⟨fd, F, B⟩ := fb__law_divisor (w := w) (base := base) T
  exact B.pos sp2_len (F.binds (ps := ["one", "other"]) fun _ _ _ _ _ _ us hl => match us, hl with | [_, _], _ => rfl)
abbrev N__law_positive : List Str := ["draw", "great", "k"]
theorem sc__law_positive : FnScope N__law_positive ["draw"] (defScope s__law_positive) := ⟨rfl, rfl, rfl, by decide +kernel, rfl, by decide +kernel, by decide +kernel⟩
def spPositive (K : Frag) : Sp := sp1 fun x H Q _ => ∃ d n, x = .ref d ∧ DrawAt K H d n ∧ n < 2 ^ 49 ∧ ∀ r H', 1 ≤ r → Bd 80 r → DrawAt K H' d (n + 10) → Exb d H H' → Q (.int r) H'
theorem fb__law_positive (T : Txt P K mg D) : ∃ fd, Fun K "_law_positive" "_law_positive" s__law_positive D._law_positive fd ∧ FnB P w K mg base 3 D._law_positive fd ["draw"] (spPositive K) := by
  obtain ⟨fd, F⟩ := T.f__law_positive
  refine ⟨fd, F, Fun_okB (k := 2) F sc__law_positive fun cdv A outer s H vs Q E hr hg h => ?_⟩
  have nd := sc__law_positive.nd
  obtain ⟨x, rfl, d, n, rfl, hD, hn, q⟩ := h
  refine ⟨_, (pss_cons (ps_set (i := 1) nd rfl (.inl rfl) (pe_op op_add pe_int (pe_callG (ok__law_next T) (hr.mono (by decide)) hg (takes_of rfl rfl rfl rfl) rfl T.g__law_next T.k__law_next (pa_cons (pv 0) (pa_cons pe_int pa_nil)))))
        (pss_cons (ps_for (passes_of rfl) rfl (pi_range1 rfl T.n_range (pa_cons (pe_callG (ok__law_next T) (hr.mono (by decide)) hg (takes_of rfl rfl rfl rfl) rfl T.g__law_next T.k__law_next (pa_cons (pv 0) (pa_cons pe_int pa_nil))) pa_nil)) (pg_name (i := 2) nd rfl (.inl rfl)) (pss_one (ps_set (i := 1) nd rfl (.inl rfl) (pe_op op_add (pe_op op_mulW (pv 1) (pe_op op_pow pe_int pe_int)) (pe_callG (ok__law_next T) (hr.mono (by decide)) hg (takes_of rfl rfl rfl rfl) rfl T.g__law_next T.k__law_next (pa_cons (pv 0) (pa_cons pe_int pa_nil)))))))
        (pss_one (ps_ret (pe_ix ix_list (pe_lst (pa_cons (pv 1) (pa_cons (pe_op op_add pe_int (pe_callG (ok__law_next T) (hr.mono (by decide)) hg (takes_of rfl rfl rfl rfl) rfl T.g__law_next T.k__law_next (pa_cons (pv 0) (pa_cons pe_int pa_nil)))) (pa_cons pe_int pa_nil)))) (pe_callG (ok__law_next T) (hr.mono (by decide)) hg (takes_of rfl rfl rfl rfl) rfl T.g__law_next T.k__law_next (pa_cons (pv 0) (pa_cons pe_int pa_nil))) (fun _ _ => rfl)))))), ?_⟩
  refine ⟨_, rfl, _, _, rfl, d, n, 60, rfl, rfl, hD, by omega, by decide, by decide, fun r r0 r1 H1 D1 e1 => ⟨_, _, rfl, rfl, ?_⟩⟩
  refine ⟨_, rfl, _, _, rfl, d, _, 3, rfl, rfl, D1, by omega, by decide, by decide, fun m m0 m1 H2 D2 e2 => ⟨m, rfl, by omega, by omega, ?_⟩⟩
  have hm4 : m.toNat ≤ 2 := by omega
  refine for_range (lo := 0) (n := m.toNat) (fun i σ H' => ∃ g kv, σ = [some (.ref d), some (.int g), kv] ∧ 1 ≤ g ∧ Bd (10 + 31 * i) g ∧ DrawAt K H' d (n + 2 + i) ∧ Exb d H H') ⟨1 + r, none, rfl, by omega, by unfold Bd; omega, D2.mono (by omega), e1.trans e2⟩ ?_ ?_
  · rintro i σ H' hi ⟨g, kv, rfl, g1, bg, D', e'⟩
    have p1 : CPow 10 9 := ⟨by decide, by decide, by decide⟩
    have b10 : Bd 30 (10 ^ (9 : Int).toNat) := by unfold Bd; decide
    have bm := bg.mul b10
    refine ⟨_, rfl, _, _, rfl, rfl, p1, _, _, rfl, rfl, wide_mul bg b10 (by omega) (by omega) (by omega), _, rfl, _, _, rfl, d, _, 1000, rfl, rfl, D', by omega, by decide, by decide, fun r' r0 r1 H3 D3 e3 => ⟨_, _, rfl, rfl, ?_⟩⟩
    have h10 : (10 : Int) ^ (9 : Int).toNat = 1000000000 := by decide
    refine ⟨_, _, rfl, by rw [h10]; omega, ?_, D3.mono (by omega), e'.trans e3⟩
    have br : Bd 10 r' := by unfold Bd; omega
    exact (bm.add (br.mono (by omega))).mono (by omega)
  · rintro σ H' ⟨g, kv, rfl, g1, bg, D', e'⟩
    refine ⟨_, rfl, _, rfl, _, _, rfl, d, _, 12, rfl, rfl, D', by omega, by decide, by decide, fun u u0 u1 H3 D3 e3 => ⟨_, _, rfl, rfl, sz5 (by simp), fun p hp => ?_⟩⟩
    refine ⟨_, rfl, _, _, rfl, d, _, 3, rfl, rfl, D3.ex (Evl.Ex.new hp), by omega, by decide, by decide, fun r' r0 r1 H4 D4 e4 => ?_⟩
    have cs := ((D3.ex (Evl.Ex.new hp)).car e4).l (K := K) (SqL.of upd_same)
    obtain ⟨v, hv, hm⟩ := atI_mem (xs := [.int g, .int (1 + u), .int 1]) r0 (by show r' < 3; exact r1)
    obtain ⟨z, rfl, z1, bz⟩ : ∃ z, v = .int z ∧ 1 ≤ z ∧ Bd 80 z := by
      simp only [List.mem_cons, List.not_mem_nil, or_false] at hm
      rcases hm with rfl | rfl | rfl
      · exact ⟨_, rfl, g1, bg.mono (by omega)⟩
      · exact ⟨_, rfl, by omega, Bd.mono (m := 8) (by unfold Bd; omega) (by decide)⟩
      · exact ⟨_, rfl, by decide, Bd.mono (m := 1) (by unfold Bd; decide) (by decide)⟩
    exact ⟨p, _, r', _, rfl, rfl, cs, hv, q z H4 z1 bz (D4.mono (by omega)) (((e'.trans e3).ex (Evl.Ex.new hp)).trans e4)⟩
theorem ok__law_positive (T : Txt P K mg D) : CallG P w K mg base 3 D._law_positive [] (spPositive K) := by
  obtain ⟨fd, F, B⟩ := fb__law_positive (w := w) (base := base) T
  exact B.pos sp1_len (F.binds (ps := ["draw"]) fun _ _ _ _ _ _ us hl => match us, hl with | [_], _ => rfl)
abbrev N__law_some : List Str := ["draw", "base", "found", "k"]
theorem sc__law_some : FnScope N__law_some ["draw"] (defScope s__law_some) := ⟨rfl, rfl, rfl, by decide +kernel, rfl, by decide +kernel, by decide +kernel⟩
def spSome (K : Frag) : Sp := sp1 fun x H Q _ => ∃ d n, x = .ref d ∧ DrawAt K H d n ∧ n < 2 ^ 48 ∧ ∀ p vs xs H', H' p = some (.lst vs) → DpAll K H' vs (numD xs) → (∀ y ∈ xs, Fit 90 y) → 1 ≤ xs.length → xs.length ≤ 4 → DrawAt K H' d (n + 400) → Exb d H H' → Q (.ref p) H'
theorem fb__law_some (T : Txt P K mg D) : ∃ fd, Fun K "_law_some" "_law_some" s__law_some D._law_some fd ∧ FnB P w K mg base 5 D._law_some fd ["draw"] (spSome K) := by
  obtain ⟨fd, F⟩ := T.f__law_some
  refine ⟨fd, F, Fun_okB (k := 4) F sc__law_some fun cdv A outer s H vs Q E hr hg h => ?_⟩
  have nd := sc__law_some.nd
  obtain ⟨x, rfl, d, n, rfl, hD, hn, q⟩ := h
  refine ⟨_, (pss_cons (ps_set (i := 1) nd rfl (.inl rfl) (pe_callG (ok_number T) (hr.mono (by decide)) hg (takes_of rfl rfl rfl rfl) rfl T.g_number T.k_number (pa_cons (pe_callG (ok__law_positive T) (hr.mono (by decide)) hg (takes_of rfl rfl rfl rfl) rfl T.g__law_positive T.k__law_positive (pa_cons (pv 0) pa_nil)) (pa_cons (pe_callG (ok__law_positive T) (hr.mono (by decide)) hg (takes_of rfl rfl rfl rfl) rfl T.g__law_positive T.k__law_positive (pa_cons (pv 0) pa_nil)) pa_nil))))
        (pss_cons (ps_set (i := 2) nd rfl (.inl rfl) (pe_lst pa_nil))
        (pss_cons (ps_for (passes_of rfl) rfl (pi_range1 rfl T.n_range (pa_cons (pe_op op_add pe_int (pe_callG (ok__law_next T) (hr.mono (by decide)) hg (takes_of rfl rfl rfl rfl) rfl T.g__law_next T.k__law_next (pa_cons (pv 0) (pa_cons pe_int pa_nil)))) pa_nil)) (pg_name (i := 3) nd rfl (.inl rfl)) (pss_one (ps_if (pt_cmpR op_eq (pe_callG (ok__law_next T) (hr.mono (by decide)) hg (takes_of rfl rfl rfl rfl) rfl T.g__law_next T.k__law_next (pa_cons (pv 0) (pa_cons pe_int pa_nil))) pe_int (nomark _)) (pss_one (ps_expr (pe_bm PySem.F.plainAttrs_list PySem.F.slot_list_append PySem.F.type_list_append mt_append (pv 2) (pa_cons (pe_callG (ok_multiply T) (hr.mono (by decide)) hg (takes_of rfl rfl rfl rfl) rfl T.g_multiply T.k_multiply (pa_cons (pv 1) (pa_cons (pe_tup (pa_cons (pe_op op_add pe_int (pe_callG (ok__law_next T) (hr.mono (by decide)) hg (takes_of rfl rfl rfl rfl) rfl T.g__law_next T.k__law_next (pa_cons (pv 0) (pa_cons pe_int pa_nil)))) (pa_cons pe_int pa_nil))) pa_nil))) pa_nil)))) (pss_one (ps_expr (pe_bm PySem.F.plainAttrs_list PySem.F.slot_list_append PySem.F.type_list_append mt_append (pv 2) (pa_cons (pe_callG (ok_number T) (hr.mono (by decide)) hg (takes_of rfl rfl rfl rfl) rfl T.g_number T.k_number (pa_cons (pe_callG (ok__law_positive T) (hr.mono (by decide)) hg (takes_of rfl rfl rfl rfl) rfl T.g__law_positive T.k__law_positive (pa_cons (pv 0) pa_nil)) (pa_cons (pe_callG (ok__law_positive T) (hr.mono (by decide)) hg (takes_of rfl rfl rfl rfl) rfl T.g__law_positive T.k__law_positive (pa_cons (pv 0) pa_nil)) pa_nil))) pa_nil)))))))
        (pss_one (ps_ret (pv 2)))))), ?_⟩
  refine ⟨_, rfl, _, rfl, d, _, rfl, hD, by omega, fun a HA a1 ba DA eA => ⟨_, rfl, _, rfl, d, _, rfl, DA, by omega, fun b HB b1 bb' DB eB => ?_⟩⟩
  refine ⟨_, _, rfl, .int a, .int b, .int _, .int _, fun a' b' ea eb _ => ?_, fun hc => absurd (hc _ _ rfl rfl) (by omega)⟩
  cases ea
  cases eb
  refine ⟨bb'.mono (by decide), fun t HT ht eT dT => ?_⟩
  have ft : Fit 80 (red a b) := Fit.red (by omega) (by omega) ba bb'
  refine ⟨sz5 (by simp), fun l hl => ?_⟩
  have nb := (NumAt.new (K := K) dT).c (Car.ex (Evl.Ex.new (o := .lst []) hl))
  have D1 := (DB.ex eT).ex (Evl.Ex.new (o := .lst []) hl)
  have e1 := ((eA.trans eB).ex eT).ex (Evl.Ex.new (o := .lst []) hl)
  have hl0 : ∀ {G : Hp} {ws : List V} {o : HO}, Exb d H G → G l = some (.lst ws) → l ≠ d → True := fun _ _ _ => trivial
  have HN : H l = none ∨ l = d := by
    by_cases z : l = d
    · exact .inr z
    · refine .inl ?_
      cases h : H l with
      | none => rfl
      | some o =>
        have := ((eA.trans eB).ex eT) l o z h
        rw [hl] at this
        cases this
  have ld : l ≠ d := fun z => by
    obtain ⟨_, _, _, _, _, h, _⟩ := DB.ex eT
    rw [z] at hl
    rw [hl] at h
    cases h
  replace HN : H l = none := HN.resolve_right ld
  refine ⟨_, rfl, _, _, rfl, d, _, 4, rfl, rfl, D1, by omega, by decide, by decide, fun m m0 m1 H2 D2 e2 => ⟨_, _, rfl, rfl, _, rfl, by omega, by omega, ?_⟩⟩
  refine for_range (lo := 0) (n := (1 + m).toNat) (fun i σ H' => ∃ vs xs kv, σ = [some (.ref d), some (.ref t), some (.ref l), kv] ∧ H' l = some (.lst vs) ∧ DpAll K H' vs (numD xs) ∧ (∀ y ∈ xs, Fit 90 y) ∧ xs.length = i ∧ NumAt K H' (.ref t) (red a b).1 (red a b).2 ∧ DrawAt K H' d (n + 21 + 60 * i) ∧ Exb d H H')
    ⟨[], [], none, rfl, e2 _ _ ld upd_same, DpAll.nil, (fun _ h => absurd h (by simp)), rfl, nb.c (D1.car e2), D2.mono (by omega), e1.trans e2⟩ ?_ ?_
  · rintro i σ H' hi ⟨vs, xs, kv, rfl, hL, hds, hfit, hlen, nB, D', e'⟩
    have hi4 : i < 4 := by omega
    have put : ∀ {G : Hp} {z : V} {y : Int × Int}, (∀ u o, H' u = some o → u ≠ d → G u = some o) → DpAll K G vs (numD xs) → NumAt K G z y.1 y.2 → Fit 90 y → NumAt K G (.ref t) (red a b).1 (red a b).2 → DrawAt K G d (n + 21 + 60 * i + 50) →
        ∃ vs' xs' kv, [some (.ref d), some (.ref t), some (.ref l), some (V.int (0 + (i : Int)))] = [some (.ref d), some (.ref t), some (.ref l), kv] ∧ upd G l (.lst (vs ++ [z])) l = some (.lst vs') ∧ DpAll K (upd G l (.lst (vs ++ [z]))) vs' (numD xs') ∧ (∀ y ∈ xs', Fit 90 y) ∧ xs'.length = i + 1 ∧ NumAt K (upd G l (.lst (vs ++ [z]))) (.ref t) (red a b).1 (red a b).2 ∧ DrawAt K (upd G l (.lst (vs ++ [z]))) d (n + 21 + 60 * (i + 1)) ∧ Exb d H (upd G l (.lst (vs ++ [z]))) := fun {G z y} k g1 g2 g3 g4 g5 => by
      have gl := k l _ hL ld
      refine ⟨vs ++ [z], xs ++ [y], _, rfl, upd_same, ?_, ?_, by simp [hlen], g4.updL gl _, (g5.updL gl (nums_refs g1) _).mono (by omega), fun u o hu ho => ?_⟩
      · rw [numD_app]
        exact DpAll.app (numsL g1 gl _) (.cons (g2.updL gl _).d .nil)
      · intro w hw
        rcases List.mem_append.mp hw with hw | hw
        · exact hfit w hw
        · rw [List.mem_singleton.mp hw]; exact g3
      · have ul : u ≠ l := ne_of_none ho HN
        rw [upd_ne ul]
        exact k u o (e' u o hu ho) hu
    refine ⟨_, rfl, _, _, rfl, d, _, 2, rfl, rfl, D', by omega, by decide, by decide, fun k k0 k1 HK DK eK => ⟨rfl, _, rfl, iteB (fun _ => ?_) (fun _ => ?_)⟩⟩
    · refine ⟨_, rfl, .inl ⟨rfl, _, SqL.of (eK _ _ ld hL)⟩, _, rfl, _, rfl, _, _, rfl, d, _, 30, rfl, rfl, DK, by omega, by decide, by decide, fun u u0 u1 HU DU eU => ⟨_, _, rfl, rfl, sz5 (by simp), fun t2 ht2 => ?_⟩⟩
      have eKU := eK.trans eU
      have cKU := (D'.car eK).trans (DK.car eU)
      have e2' := Evl.Ex.new (o := .tup [.int (1 + u), .int 1]) ht2
      have fu : Fit 6 (1 + u, 1) := ⟨⟨Int.le_refl 1, by simp [Int.gcd]⟩, by show 0 < 1 + u; omega, by show Bd 6 (1 + u); unfold Bd; omega, show Bd 6 1 from Bd.mono (m := 1) (by unfold Bd; decide) (by decide)⟩
      have b4 : ∀ {n : Nat} {y : Int}, Bd n y → n ≤ 4000 → Bd 4000 y := fun h hn => h.mono hn
      refine (bin_num ((nB.c cKU).c (Car.ex e2')) (NumAt.new upd_same) ft.i fu.i (b4 ft.b1 (by decide)) (b4 ft.b2 (by decide)) (b4 fu.b1 (by decide)) (b4 fu.b2 (by decide)) (fun t3 H3 ht3 e3 d3 => ?_) : spMul K D.InvalidNumber [.ref t, .ref t2] _ _ _)
      have e4 := e2'.trans e3
      refine ⟨l, vs, _, rfl, rfl, e4 _ _ (eKU _ _ ld hL), by rw [Rm.DpAll.len hds, sizeLine_eq]; simp [numD]; omega, ?_⟩
      exact put (y := red ((red a b).1 * (1 + u)) ((red a b).2 * 1)) (fun w o hw hn => e4 _ _ (eKU w o hn hw)) ((Car.ex e4).ds (cKU.ds hds)) (NumAt.new d3) ((ft.times fu).mono (by decide)) ((nB.c cKU).c (Car.ex e4)) ((DU.ex e4).mono (by omega))
    · refine ⟨_, rfl, .inl ⟨rfl, _, SqL.of (eK _ _ ld hL)⟩, _, rfl, _, rfl, d, _, rfl, DK, by omega, fun a2 HA2 a21 ba2 DA2 eA2 => ⟨_, rfl, _, rfl, d, _, rfl, DA2, by omega, fun b2 HB2 b21 bb2 DB2 eB2 => ?_⟩⟩
      refine ⟨_, _, rfl, .int a2, .int b2, .int _, .int _, fun a' b' ea eb _ => ?_, fun hc => absurd (hc _ _ rfl rfl) (by omega)⟩
      cases ea
      cases eb
      have eKU := (eK.trans eA2).trans eB2
      have cKU := ((D'.car eK).trans (DK.car eA2)).trans (DA2.car eB2)
      refine ⟨bb2.mono (by decide), fun t3 H3 ht3 e3 d3 => ?_⟩
      refine ⟨l, vs, _, rfl, rfl, e3 _ _ (eKU _ _ ld hL), by rw [Rm.DpAll.len hds, sizeLine_eq]; simp [numD]; omega, ?_⟩
      exact put (y := red a2 b2) (fun w o hw hn => e3 _ _ (eKU w o hn hw)) ((Car.ex e3).ds (cKU.ds hds)) (NumAt.new d3) ((Fit.red (by omega) (by omega) ba2 bb2).mono (by decide)) ((nB.c cKU).c (Car.ex e3)) ((DB2.ex e3).mono (by omega))
  · rintro σ H' ⟨vs, xs, kv, rfl, hL, hds, hfit, hlen, nB, D', e'⟩
    exact ⟨_, rfl, q l vs xs H' hL hds hfit (by omega) (by omega) (D'.mono (by omega)) e'⟩
theorem ok__law_some (T : Txt P K mg D) : CallG P w K mg base 5 D._law_some [] (spSome K) := by
  obtain ⟨fd, F, B⟩ := fb__law_some (w := w) (base := base) T
  exact B.pos sp1_len (F.binds (ps := ["draw"]) fun _ _ _ _ _ _ us hl => match us, hl with | [_], _ => rfl)
abbrev N__law_measure : List Str := ["some"]
theorem sc__law_measure : FnScope N__law_measure ["some"] (defScope s__law_measure) := ⟨rfl, rfl, rfl, by decide +kernel, rfl, by decide +kernel, by decide +kernel⟩
theorem fb__law_measure (T : Txt P K mg D) : ∃ fd, Fun K "_law_measure" "_law_measure" s__law_measure D._law_measure fd ∧ FnB P w K mg base 6 D._law_measure fd ["some"] (spFoldL meas K D.InvalidNumber) := by
  obtain ⟨fd, F⟩ := T.f__law_measure
  refine ⟨fd, F, Fun_okB (k := 5) F sc__law_measure fun cdv A outer s H vs Q E hr hg h => ?_⟩
  have nd := sc__law_measure.nd
  obtain ⟨x, rfl, a, vs, ds, rfl, ha, hds, h1, h2, qe, qn⟩ := h
  refine ⟨_, (pss_cons (ps_if (pt_cmpR op_lt (pe_callB call_len rfl T.n_len (by decide +kernel) (pa_cons (pv 0) pa_nil)) pe_int (nomark _)) (pss_one (ps_ret (pe_ifExp (pt_cmpR op_eq (pe_callB call_len rfl T.n_len (by decide +kernel) (pa_cons (pv 0) pa_nil)) pe_int (nomark _)) (pe_callG (ok_greatest_measure T) (hr.mono (by decide)) hg (takes_of rfl rfl rfl rfl) rfl T.g_greatest_measure T.k_greatest_measure (pa_cons (pe_ix ix_list (pv 0) pe_int (fun _ _ => rfl)) pa_nil)) (pe_callG (ok_greatest_measure T) (hr.mono (by decide)) hg (takes_of rfl rfl rfl rfl) rfl T.g_greatest_measure T.k_greatest_measure (pa_cons (pe_ix ix_list (pv 0) pe_int (fun _ _ => rfl)) (pa_cons (pe_ix ix_list (pv 0) pe_int (fun _ _ => rfl)) pa_nil)))))) pss_nil)
        (pss_cons (ps_if (pt_cmpR op_eq (pe_callB call_len rfl T.n_len (by decide +kernel) (pa_cons (pv 0) pa_nil)) pe_int (nomark _)) (pss_one (ps_ret (pe_callG (ok_greatest_measure T) (hr.mono (by decide)) hg (takes_of rfl rfl rfl rfl) rfl T.g_greatest_measure T.k_greatest_measure (pa_cons (pe_ix ix_list (pv 0) pe_int (fun _ _ => rfl)) (pa_cons (pe_ix ix_list (pv 0) pe_int (fun _ _ => rfl)) (pa_cons (pe_ix ix_list (pv 0) pe_int (fun _ _ => rfl)) pa_nil)))))) pss_nil)
        (pss_one (ps_ret (pe_callG (ok_greatest_measure T) (hr.mono (by decide)) hg (takes_of rfl rfl rfl rfl) rfl T.g_greatest_measure T.k_greatest_measure (pa_cons (pe_ix ix_list (pv 0) pe_int (fun _ _ => rfl)) (pa_cons (pe_ix ix_list (pv 0) pe_int (fun _ _ => rfl)) (pa_cons (pe_ix ix_list (pv 0) pe_int (fun _ _ => rfl)) (pa_cons (pe_ix ix_list (pv 0) pe_int (fun _ _ => rfl)) pa_nil))))))))), ?_⟩
  rcases vs with _ | ⟨v0, _ | ⟨v1, _ | ⟨v2, _ | ⟨v3, _ | ⟨v4, r⟩⟩⟩⟩⟩
  · exact absurd h1 (by simp)
  · exact ⟨_, rfl, _, _, rfl, .inl ⟨_, ha, rfl⟩, _, _, rfl, rfl, _, rfl, iteT ⟨_, rfl, _, _, rfl, .inl ⟨_, ha, rfl⟩, rfl, _, rfl, iteT ⟨_, rfl, _, _, _, _, rfl, rfl, ha, rfl, fold_in hds (by simp) h2 qe qn⟩⟩⟩
  · exact ⟨_, rfl, _, _, rfl, .inl ⟨_, ha, rfl⟩, _, _, rfl, rfl, _, rfl, iteT ⟨_, rfl, _, _, rfl, .inl ⟨_, ha, rfl⟩, rfl, _, rfl, iteF ⟨_, rfl, _, _, _, _, rfl, rfl, ha, rfl, _, rfl, _, _, _, _, rfl, rfl, ha, rfl, fold_in hds (by simp) h2 qe qn⟩⟩⟩
  · exact ⟨_, rfl, _, _, rfl, .inl ⟨_, ha, rfl⟩, _, _, rfl, rfl, _, rfl, iteF ⟨_, rfl, _, _, rfl, .inl ⟨_, ha, rfl⟩, rfl, _, rfl, iteT ⟨_, rfl, _, _, _, _, rfl, rfl, ha, rfl, _, rfl, _, _, _, _, rfl, rfl, ha, rfl, _, rfl, _, _, _, _, rfl, rfl, ha, rfl, fold_in hds (by simp) h2 qe qn⟩⟩⟩
  · exact ⟨_, rfl, _, _, rfl, .inl ⟨_, ha, rfl⟩, _, _, rfl, rfl, _, rfl, iteF ⟨_, rfl, _, _, rfl, .inl ⟨_, ha, rfl⟩, rfl, _, rfl, iteF ⟨_, rfl, _, _, _, _, rfl, rfl, ha, rfl, _, rfl, _, _, _, _, rfl, rfl, ha, rfl, _, rfl, _, _, _, _, rfl, rfl, ha, rfl, _, rfl, _, _, _, _, rfl, rfl, ha, rfl, fold_in hds (by simp) h2 qe qn⟩⟩⟩
  · exact absurd h2 (by simp)
theorem ok__law_measure (T : Txt P K mg D) : CallG P w K mg base 6 D._law_measure [] (spFoldL meas K D.InvalidNumber) := by
  obtain ⟨fd, F, B⟩ := fb__law_measure (w := w) (base := base) T
  exact B.pos sp1_len (F.binds (ps := ["some"]) fun _ _ _ _ _ _ us hl => match us, hl with | [_], _ => rfl)
abbrev N__law_multiple : List Str := ["some"]
theorem sc__law_multiple : FnScope N__law_multiple ["some"] (defScope s__law_multiple) := ⟨rfl, rfl, rfl, by decide +kernel, rfl, by decide +kernel, by decide +kernel⟩
theorem fb__law_multiple (T : Txt P K mg D) : ∃ fd, Fun K "_law_multiple" "_law_multiple" s__law_multiple D._law_multiple fd ∧ FnB P w K mg base 6 D._law_multiple fd ["some"] (spFoldL lmul K D.InvalidNumber) := by
  obtain ⟨fd, F⟩ := T.f__law_multiple
  refine ⟨fd, F, Fun_okB (k := 5) F sc__law_multiple fun cdv A outer s H vs Q E hr hg h => ?_⟩
  have nd := sc__law_multiple.nd
  obtain ⟨x, rfl, a, vs, ds, rfl, ha, hds, h1, h2, qe, qn⟩ := h
  refine ⟨_, (pss_cons (ps_if (pt_cmpR op_lt (pe_callB call_len rfl T.n_len (by decide +kernel) (pa_cons (pv 0) pa_nil)) pe_int (nomark _)) (pss_one (ps_ret (pe_ifExp (pt_cmpR op_eq (pe_callB call_len rfl T.n_len (by decide +kernel) (pa_cons (pv 0) pa_nil)) pe_int (nomark _)) (pe_callG (ok_least_multiple T) (hr.mono (by decide)) hg (takes_of rfl rfl rfl rfl) rfl T.g_least_multiple T.k_least_multiple (pa_cons (pe_ix ix_list (pv 0) pe_int (fun _ _ => rfl)) pa_nil)) (pe_callG (ok_least_multiple T) (hr.mono (by decide)) hg (takes_of rfl rfl rfl rfl) rfl T.g_least_multiple T.k_least_multiple (pa_cons (pe_ix ix_list (pv 0) pe_int (fun _ _ => rfl)) (pa_cons (pe_ix ix_list (pv 0) pe_int (fun _ _ => rfl)) pa_nil)))))) pss_nil)
        (pss_cons (ps_if (pt_cmpR op_eq (pe_callB call_len rfl T.n_len (by decide +kernel) (pa_cons (pv 0) pa_nil)) pe_int (nomark _)) (pss_one (ps_ret (pe_callG (ok_least_multiple T) (hr.mono (by decide)) hg (takes_of rfl rfl rfl rfl) rfl T.g_least_multiple T.k_least_multiple (pa_cons (pe_ix ix_list (pv 0) pe_int (fun _ _ => rfl)) (pa_cons (pe_ix ix_list (pv 0) pe_int (fun _ _ => rfl)) (pa_cons (pe_ix ix_list (pv 0) pe_int (fun _ _ => rfl)) pa_nil)))))) pss_nil)
        (pss_one (ps_ret (pe_callG (ok_least_multiple T) (hr.mono (by decide)) hg (takes_of rfl rfl rfl rfl) rfl T.g_least_multiple T.k_least_multiple (pa_cons (pe_ix ix_list (pv 0) pe_int (fun _ _ => rfl)) (pa_cons (pe_ix ix_list (pv 0) pe_int (fun _ _ => rfl)) (pa_cons (pe_ix ix_list (pv 0) pe_int (fun _ _ => rfl)) (pa_cons (pe_ix ix_list (pv 0) pe_int (fun _ _ => rfl)) pa_nil))))))))), ?_⟩
  rcases vs with _ | ⟨v0, _ | ⟨v1, _ | ⟨v2, _ | ⟨v3, _ | ⟨v4, r⟩⟩⟩⟩⟩
  · exact absurd h1 (by simp)
  · exact ⟨_, rfl, _, _, rfl, .inl ⟨_, ha, rfl⟩, _, _, rfl, rfl, _, rfl, iteT ⟨_, rfl, _, _, rfl, .inl ⟨_, ha, rfl⟩, rfl, _, rfl, iteT ⟨_, rfl, _, _, _, _, rfl, rfl, ha, rfl, fold_in hds (by simp) h2 qe qn⟩⟩⟩
  · exact ⟨_, rfl, _, _, rfl, .inl ⟨_, ha, rfl⟩, _, _, rfl, rfl, _, rfl, iteT ⟨_, rfl, _, _, rfl, .inl ⟨_, ha, rfl⟩, rfl, _, rfl, iteF ⟨_, rfl, _, _, _, _, rfl, rfl, ha, rfl, _, rfl, _, _, _, _, rfl, rfl, ha, rfl, fold_in hds (by simp) h2 qe qn⟩⟩⟩
  · exact ⟨_, rfl, _, _, rfl, .inl ⟨_, ha, rfl⟩, _, _, rfl, rfl, _, rfl, iteF ⟨_, rfl, _, _, rfl, .inl ⟨_, ha, rfl⟩, rfl, _, rfl, iteT ⟨_, rfl, _, _, _, _, rfl, rfl, ha, rfl, _, rfl, _, _, _, _, rfl, rfl, ha, rfl, _, rfl, _, _, _, _, rfl, rfl, ha, rfl, fold_in hds (by simp) h2 qe qn⟩⟩⟩
  · exact ⟨_, rfl, _, _, rfl, .inl ⟨_, ha, rfl⟩, _, _, rfl, rfl, _, rfl, iteF ⟨_, rfl, _, _, rfl, .inl ⟨_, ha, rfl⟩, rfl, _, rfl, iteF ⟨_, rfl, _, _, _, _, rfl, rfl, ha, rfl, _, rfl, _, _, _, _, rfl, rfl, ha, rfl, _, rfl, _, _, _, _, rfl, rfl, ha, rfl, _, rfl, _, _, _, _, rfl, rfl, ha, rfl, fold_in hds (by simp) h2 qe qn⟩⟩⟩
  · exact absurd h2 (by simp)
theorem ok__law_multiple (T : Txt P K mg D) : CallG P w K mg base 6 D._law_multiple [] (spFoldL lmul K D.InvalidNumber) := by
  obtain ⟨fd, F, B⟩ := fb__law_multiple (w := w) (base := base) T
  exact B.pos sp1_len (F.binds (ps := ["some"]) fun _ _ _ _ _ _ us hl => match us, hl with | [_], _ => rfl)
abbrev N__law_are_coprime : List Str := ["quotients", "found", "above", "below"]
theorem sc__law_are_coprime : FnScope N__law_are_coprime ["quotients"] (defScope s__law_are_coprime) := ⟨rfl, rfl, rfl, by decide +kernel, rfl, by decide +kernel, by decide +kernel⟩
def spCop (K : Frag) : Sp := sp1 fun x H Q _ => ∃ a vs, ∃ qs : List Nat, x = .ref a ∧ SqL K H a vs ∧ DpAll K H vs (qs.map fun (q : Nat) => .tuple [.int (q : Int), .int 1]) ∧ (∀ q ∈ qs, 0 < q) ∧ gcdR qs = 1 ∧ Q (.bl true) H
theorem fb__law_are_coprime (T : Txt P K mg D) : ∃ fd, Fun K "_law_are_coprime" "_law_are_coprime" s__law_are_coprime D._law_are_coprime fd ∧ FnB P w K mg base 2 D._law_are_coprime fd ["quotients"] (spCop K) := by
  obtain ⟨fd, F⟩ := T.f__law_are_coprime
  refine ⟨fd, F, Fun_okB (k := 1) F sc__law_are_coprime fun cdv A outer s H vs Q E hr hg h => ?_⟩
  have nd := sc__law_are_coprime.nd
  obtain ⟨x, rfl, a, vs, qs, rfl, ha, hds, hp, hq⟩ := h
  refine ⟨_, (pss_cons (ps_set (i := 1) nd rfl (.inl rfl) pe_int)
        (pss_cons (ps_for (passes_of rfl) rfl (pi_list (pv 0)) (pg_tup rfl (pgs_cons (pg_name (i := 2) nd rfl (.inl rfl)) (pgs_cons (pg_name (i := 3) nd rfl (.inl rfl)) pgs_nil))) (pss_cons (ps_if (PW.pt (pw_or (pt_cmpR op_ne (pv 3) pe_int (nomark _)) (pw_or1 (pt_cmpR op_lt (pv 2) pe_int (nomark _))))) (pss_one (ps_ret pe_bl)) pss_nil)
        (pss_one (ps_set (i := 1) nd rfl (.inl rfl) (pe_callG (ok__law_divisor T) (hr.mono (by decide)) hg (takes_of rfl rfl rfl rfl) rfl T.g__law_divisor T.k__law_divisor (pa_cons (pv 2) (pa_cons (pv 1) pa_nil)))))))
        (pss_one (ps_ret (pe_cmpR op_eq (pv 1) pe_int (nomark _)))))), ?_⟩
  refine ⟨_, rfl, a, rfl, ⟨_, ha⟩, for_list (K := K) (a := a) (xs := vs) (fun i σ H' => H' = H ∧ ∃ u v, σ = [some (.ref a), some (.int (((qs.take i).foldl (fun f a => Nat.gcd a f) 0 : Nat) : Int)), u, v]) ⟨rfl, none, none, rfl⟩ (fun i σ H' _ z => by rw [z.1]; exact ha) ?_ ?_⟩
  · rintro i x σ H' hx ⟨rfl, u, v, rfl⟩
    have hi : i < qs.length := by
      have e : vs.length = qs.length := by rw [Rm.DpAll.len hds]; simp
      rw [← e]
      by_cases hi : i < vs.length
      · exact hi
      · rw [List.getElem?_eq_none (by omega)] at hx; cases hx
    obtain ⟨d, k1, k2, _⟩ := fb_drop hds hx
    have k3 : d = .tuple [.int ((qs[i] : Nat) : Int), .int 1] := by
      rw [List.getElem?_map, List.getElem?_eq_getElem hi] at k1
      simpa using k1.symm
    subst k3
    obtain ⟨t, rfl, ht⟩ := NumAt.of k2
    have hpos := hp _ (List.getElem_mem hi)
    refine ⟨_, _, rfl, ht, rfl, _, _, rfl, _, _, rfl, rfl, ?_⟩
    refine ⟨_, rfl, rfl, _, rfl, iteF ⟨_, rfl, _, _, rfl, rfl, _, rfl, iteB (fun c => absurd (of_decide_eq_true c) (by omega)) (fun _ => ?_)⟩⟩
    refine ⟨_, rfl, _, rfl, _, _, rfl, qs[i], _, rfl, rfl, rfl, some (.int ((qs[i] : Nat) : Int)), some (.int 1), ?_⟩
    rw [List.take_add_one, List.getElem?_eq_getElem hi, List.foldl_append]
    rfl
  · rintro σ H' ⟨rfl, u, v, rfl⟩
    have e : vs.length = qs.length := by rw [Rm.DpAll.len hds]; simp
    refine ⟨_, rfl, rfl, ?_⟩
    rw [e, List.take_length]
    show Q (.bl (decide (V.int ((gcdR qs : Nat) : Int) = V.int 1))) _
    rw [hq.1]
    exact hq.2
theorem ok__law_are_coprime (T : Txt P K mg D) : CallG P w K mg base 2 D._law_are_coprime [] (spCop K) := by
  obtain ⟨fd, F, B⟩ := fb__law_are_coprime (w := w) (base := base) T
  exact B.pos sp1_len (F.binds (ps := ["quotients"]) fun _ _ _ _ _ _ us hl => match us, hl with | [_], _ => rfl)
abbrev N__law_right : List Str := ["some", "least", "most", "twice", "scaled", "one"]
theorem sc__law_right : FnScope N__law_right ["some"] (defScope s__law_right) := ⟨rfl, rfl, rfl, by decide +kernel, rfl, by decide +kernel, by decide +kernel⟩
def spRight (K : Frag) : Sp := sp1 fun x H Q _ => ∃ a vs x0 xs, x = .ref a ∧ H a = some (.lst vs) ∧ DpAll K H vs (numD (x0 :: xs)) ∧ (∀ y ∈ x0 :: xs, Fit 90 y) ∧ xs.length ≤ 3 ∧ ∀ H', Ex H H' → Q (.bl true) H'
theorem fb__law_right (T : Txt P K mg D) : ∃ fd, Fun K "_law_right" "_law_right" s__law_right D._law_right fd ∧ FnB P w K mg base 7 D._law_right fd ["some"] (spRight K) := by
  obtain ⟨fd, F⟩ := T.f__law_right
  refine ⟨fd, F, Fun_okB (k := 6) F sc__law_right fun cdv A outer s H vs Q E hr hg h => ?_⟩
  have nd := sc__law_right.nd
  obtain ⟨x, rfl, a, vs, x0, xs, rfl, hL, hds, hfit, hlen, hq⟩ := h
  refine ⟨_, (pss_cons (ps_asg (pe_tup (pa_cons (pe_callG (ok__law_measure T) (hr.mono (by decide)) hg (takes_of rfl rfl rfl rfl) rfl T.g__law_measure T.k__law_measure (pa_cons (pv 0) pa_nil)) (pa_cons (pe_callG (ok__law_multiple T) (hr.mono (by decide)) hg (takes_of rfl rfl rfl rfl) rfl T.g__law_multiple T.k__law_multiple (pa_cons (pv 0) pa_nil)) pa_nil))) (pg_tup rfl (pgs_cons (pg_name (i := 1) nd rfl (.inr rfl)) (pgs_cons (pg_name (i := 2) nd rfl (.inr rfl)) pgs_nil))))
        (pss_cons (ps_if (PW.pt (pw_or (pt_not (pt_val (pe_callG (ok_is_number T) (hr.mono (by decide)) hg (takes_of rfl rfl rfl rfl) rfl T.g_is_number T.k_is_number (pa_cons (pv 1) pa_nil)))) (pw_or (pt_not (pt_val (pe_callG (ok_is_number T) (hr.mono (by decide)) hg (takes_of rfl rfl rfl rfl) rfl T.g_is_number T.k_is_number (pa_cons (pv 2) pa_nil)))) (pw_or (pt_cmpR op_lt (pe_ix ix_tup (pv 1) pe_int (fun _ _ => rfl)) pe_int (nomark _)) (pw_or1 (pt_cmpR op_lt (pe_ix ix_tup (pv 2) pe_int (fun _ _ => rfl)) pe_int (nomark _))))))) (pss_one (ps_ret pe_bl)) pss_nil)
        (pss_cons (ps_if (pt_not (pt_val (pe_callG (ok__law_are_coprime T) (hr.mono (by decide)) hg (takes_of rfl rfl rfl rfl) rfl T.g__law_are_coprime T.k__law_are_coprime (pa_cons (pe_lc (own := [("one", 5)]) (g := gName 5) (by rfl) nd (pi_list (pv 0)) (blkOk_by (own := [("one", 5)]) (N := N__law_right) (sc := defScope s__law_right) (by decide +kernel)) (fun _ _ _ _ _ => pg_name (i := 5) nd rfl (Or.inl rfl)) (fun _ _ _ _ _ => pts_nil) (fun _ _ _ _ _ => (pe_callG (ok_divide T) (hr.mono (by decide)) hg takesF rfl T.g_divide T.k_divide (pa_cons (pv 5) (pa_cons (pv 1) pa_nil))))) pa_nil)))) (pss_one (ps_ret pe_bl)) pss_nil)
        (pss_cons (ps_if (pt_not (pt_val (pe_callG (ok__law_are_coprime T) (hr.mono (by decide)) hg (takes_of rfl rfl rfl rfl) rfl T.g__law_are_coprime T.k__law_are_coprime (pa_cons (pe_lc (own := [("one", 5)]) (g := gName 5) (by rfl) nd (pi_list (pv 0)) (blkOk_by (own := [("one", 5)]) (N := N__law_right) (sc := defScope s__law_right) (by decide +kernel)) (fun _ _ _ _ _ => pg_name (i := 5) nd rfl (Or.inl rfl)) (fun _ _ _ _ _ => pts_nil) (fun _ _ _ _ _ => (pe_callG (ok_divide T) (hr.mono (by decide)) hg takesF rfl T.g_divide T.k_divide (pa_cons (pv 2) (pa_cons (pv 5) pa_nil))))) pa_nil)))) (pss_one (ps_ret pe_bl)) pss_nil)
        (pss_cons (ps_if (pt_cmpR (op_neD hr.units) (pe_lst (pa_cons (pe_callG (ok__law_measure T) (hr.mono (by decide)) hg (takes_of rfl rfl rfl rfl) rfl T.g__law_measure T.k__law_measure (pa_cons (pe_revL (pv 0)) pa_nil)) (pa_cons (pe_callG (ok__law_multiple T) (hr.mono (by decide)) hg (takes_of rfl rfl rfl rfl) rfl T.g__law_multiple T.k__law_multiple (pa_cons (pe_revL (pv 0)) pa_nil)) pa_nil))) (pe_lst (pa_cons (pv 1) (pa_cons (pv 2) pa_nil))) (nomark _)) (pss_one (ps_ret pe_bl)) pss_nil)
        (pss_cons (ps_if (PW.pt (pw_and (pt_cmpR op_eq (pe_callB call_len rfl T.n_len (by decide +kernel) (pa_cons (pv 0) pa_nil)) pe_int (nomark _)) (pw_and1 (pt_cmpR (op_neD hr.units) (pe_lst (pa_cons (pv 1) (pa_cons (pv 2) pa_nil))) (pe_op op_rep (pv 0) pe_int) (nomark _))))) (pss_one (ps_ret pe_bl)) pss_nil)
        (pss_cons (ps_if (PW.pt (pw_and (pt_cmpR op_eq (pe_callB call_len rfl T.n_len (by decide +kernel) (pa_cons (pv 0) pa_nil)) pe_int (nomark _)) (pw_and1 (pt_cmpR (op_neD hr.units) (pe_callG (ok_multiply T) (hr.mono (by decide)) hg (takes_of rfl rfl rfl rfl) rfl T.g_multiply T.k_multiply (pa_cons (pv 1) (pa_cons (pv 2) pa_nil))) (pe_callG (ok_multiply T) (hr.mono (by decide)) hg (takes_of rfl rfl rfl rfl) rfl T.g_multiply T.k_multiply (pa_cons (pe_ix ix_list (pv 0) pe_int (fun _ _ => rfl)) (pa_cons (pe_ix ix_list (pv 0) pe_int (fun _ _ => rfl)) pa_nil))) (nomark _))))) (pss_one (ps_ret pe_bl)) pss_nil)
        (pss_cons (ps_set (i := 3) nd rfl (.inl rfl) (pe_slice sl_list (pe_op op_catL (pv 0) (pe_slice sl_list (pv 0) po_none (po_some pe_int))) po_none (po_some pe_int)))
        (pss_cons (ps_if (PW.pt (pw_and (pt_cmpR op_lt (pe_callB call_len rfl T.n_len (by decide +kernel) (pa_cons (pv 0) pa_nil)) pe_int (nomark _)) (pw_and1 (pt_cmpR (op_neD hr.units) (pe_lst (pa_cons (pe_callG (ok__law_measure T) (hr.mono (by decide)) hg (takes_of rfl rfl rfl rfl) rfl T.g__law_measure T.k__law_measure (pa_cons (pv 3) pa_nil)) (pa_cons (pe_callG (ok__law_multiple T) (hr.mono (by decide)) hg (takes_of rfl rfl rfl rfl) rfl T.g__law_multiple T.k__law_multiple (pa_cons (pv 3) pa_nil)) pa_nil))) (pe_lst (pa_cons (pv 1) (pa_cons (pv 2) pa_nil))) (nomark _))))) (pss_one (ps_ret pe_bl)) pss_nil)
        (pss_cons (ps_setLc (i := 4) (own := [("one", 5)]) (g := gName 5) (by rfl) nd rfl rfl (by rfl) (pi_list (pv 0)) (blkOk_by (own := [("one", 5)]) (N := N__law_right) (sc := defScope s__law_right) (by decide +kernel)) (fun _ _ _ _ _ => pg_name (i := 5) nd rfl (Or.inl rfl)) (fun _ _ _ _ _ => pts_nil) (fun _ _ _ _ _ => (pe_callG (ok_multiply T) (hr.mono (by decide)) hg takesF rfl T.g_multiply T.k_multiply (pa_cons (pv 5) (pa_cons (pe_tup (pa_cons pe_int (pa_cons pe_int pa_nil))) pa_nil)))))
        (pss_one (ps_ret (pe_cmpR (op_eqD hr.units) (pe_lst (pa_cons (pe_callG (ok__law_measure T) (hr.mono (by decide)) hg (takes_of rfl rfl rfl rfl) rfl T.g__law_measure T.k__law_measure (pa_cons (pv 4) pa_nil)) (pa_cons (pe_callG (ok__law_multiple T) (hr.mono (by decide)) hg (takes_of rfl rfl rfl rfl) rfl T.g__law_multiple T.k__law_multiple (pa_cons (pv 4) pa_nil)) pa_nil))) (pe_lst (pa_cons (pe_callG (ok_multiply T) (hr.mono (by decide)) hg (takes_of rfl rfl rfl rfl) rfl T.g_multiply T.k_multiply (pa_cons (pv 1) (pa_cons (pe_tup (pa_cons pe_int (pa_cons pe_int pa_nil))) pa_nil))) (pa_cons (pe_callG (ok_multiply T) (hr.mono (by decide)) hg (takes_of rfl rfl rfl rfl) rfl T.g_multiply T.k_multiply (pa_cons (pv 2) (pa_cons (pe_tup (pa_cons pe_int (pa_cons pe_int pa_nil))) pa_nil))) pa_nil))) (nomark _)))))))))))))), ?_⟩
  have f1 : ∀ y ∈ x0 :: xs, Fit 100 y := fun y hy => (hfit y hy).mono (by decide)
  obtain ⟨N, as', hN, on'⟩ := OnL.some (x0 :: xs) fun y hy => ⟨(hfit y hy).i, (hfit y hy).p⟩
  obtain ⟨a0, as, rfl, on0, on⟩ : ∃ a0 as, as' = a0 :: as ∧ On N x0 a0 ∧ OnL N xs as := by
    cases on' with
    | cons h r => exact ⟨_, _, rfl, h, r⟩
  have lx : vs.length = xs.length + 1 := by rw [Rm.DpAll.len hds]; simp [numD]
  have la : as.length = xs.length := on.len.symm
  have fbb : bb (0 + xs.length) ≤ 2200 := bb_le (by omega)
  have oL : On N (xs.foldl meas x0) (as.foldl Nat.gcd a0) := on.meas on0
  have oM : On N (xs.foldl lmul x0) (as.foldl Nat.lcm a0) := on.lmul on0
  have fL : Fit 2200 (xs.foldl meas x0) := (fold_fit (f := meas) (fun h k => (h.meas k).mono (by omega)) xs x0 0 (f1 x0 List.mem_cons_self) fun y hy => f1 y (List.mem_cons_of_mem _ hy)).mono fbb
  have fM : Fit 2200 (xs.foldl lmul x0) := (fold_fit (f := lmul) (fun h k => h.lmul k) xs x0 0 (f1 x0 List.mem_cons_self) fun y hy => f1 y (List.mem_cons_of_mem _ hy)).mono fbb
  have same : ∀ {y0 : Int × Int} {ys : List (Int × Int)} {b0 : Nat} {bs : List Nat}, OnL N (y0 :: ys) (b0 :: bs) → (∀ c, c ∈ a0 :: as ↔ c ∈ b0 :: bs) → xs.foldl meas x0 = ys.foldl meas y0 ∧ xs.foldl lmul x0 = ys.foldl lmul y0 := fun k e => fold_eq (.cons on0 on) k e
  -- least, most
  refine ⟨_, rfl, (fold_num (SqL.of hL) hds (by omega) f1 (fun lv H1 nL e1 => ?_) : spFoldL meas K D.InvalidNumber [.ref a] _ _ _)⟩
  refine ⟨_, rfl, (fold_num (SqL.of (e1 _ _ hL)) ((Car.ex e1).ds hds) (by omega) f1 (fun mv H2 nM e2 => ?_) : spFoldL lmul K D.InvalidNumber [.ref a] _ _ _)⟩
  refine ⟨sz5 (by simp), fun t0 ht0 => ?_⟩
  have e2' := Evl.Ex.new (o := .tup [lv, mv]) ht0
  refine ⟨_, _, rfl, SqT.of upd_same, rfl, _, _, rfl, _, _, rfl, rfl, ?_⟩
  have g2 := (e1.trans e2).trans e2'
  replace nL := nL.c (Car.ex (e2.trans e2'))
  replace nM := nM.c (Car.ex e2')
  generalize hLd : xs.foldl meas x0 = L at *
  generalize hMd : xs.foldl lmul x0 = M at *
  generalize hg' : as.foldl Nat.gcd a0 = g at *
  generalize hl : as.foldl Nat.lcm a0 = l at *
  refine ⟨_, rfl, _, rfl, _, nL.d, fun H3 e3 => ⟨_, rfl, iteB (fun c => absurd c (by rw [isNumD_is oL.i]; simp)) (fun _ => ?_)⟩⟩
  refine ⟨_, rfl, _, rfl, _, (nM.c (Car.ex e3)).d, fun H4 e4 => ⟨_, rfl, iteB (fun c => absurd c (by rw [isNumD_is oM.i]; simp)) (fun _ => ?_)⟩⟩
  have e34 := e3.trans e4
  have g4 := g2.trans e34
  have NL : ∀ {G : Hp}, Ex H4 G → NumAt K G lv L.1 L.2 := fun e => nL.c (Car.ex (e34.trans e))
  have NM : ∀ {G : Hp}, Ex H4 G → NumAt K G mv M.1 M.2 := fun e => nM.c (Car.ex (e34.trans e))
  obtain ⟨la', rfl, sL⟩ := NL (Evl.Ex.refl _)
  obtain ⟨ma', rfl, sM⟩ := NM (Evl.Ex.refl _)
  refine ⟨_, rfl, _, _, _, _, rfl, rfl, sL, rfl, _, _, rfl, rfl, _, rfl, iteB (fun c => absurd (of_decide_eq_true c) (by have := fL.p; omega)) (fun _ => ?_)⟩
  refine ⟨_, rfl, _, _, _, _, rfl, rfl, sM, rfl, _, _, rfl, rfl, _, rfl, iteB (fun c => absurd (of_decide_eq_true c) (by have := fM.p; omega)) (fun _ => ?_)⟩
  have SV : ∀ {G : Hp}, Ex H4 G → SqL K G a vs := fun e => SqL.of (e _ _ (g4 _ _ hL))
  have DV : ∀ {G : Hp}, Ex H4 G → DpAll K G vs (numD (x0 :: xs)) := fun e => (Car.ex (g4.trans e)).ds hds
  have NL' : ∀ {G : Hp}, Ex H4 G → NumAt K G (.ref la') L.1 L.2 := fun e => ⟨_, rfl, (Car.ex e).t sL⟩
  have NM' : ∀ {G : Hp}, Ex H4 G → NumAt K G (.ref ma') M.1 M.2 := fun e => ⟨_, rfl, (Car.ex e).t sM⟩
  have lp : 0 < l := oM.ap
  have gp : 0 < g := oL.ap
  have dv : ∀ b ∈ a0 :: as, g ∣ b := fun b hb => by rw [← hg']; exact gcdF_dvd _ _ _ hb
  have dw : ∀ b ∈ a0 :: as, b ∣ l := fun b hb => by rw [← hl]; exact dvd_lcmF _ _ _ hb
  have ap : ∀ b ∈ a0 :: as, 0 < b := fun b hb => Nat.pos_of_dvd_of_pos (dw b hb) lp
  have onA : OnL N (x0 :: xs) (a0 :: as) := .cons on0 on
  have w4 : ∀ {n : Nat} {y : Int}, Bd n y → n ≤ 4000 → Bd 4000 y := fun h hn => h.mono hn
  -- the quotients by the least
  refine ⟨_, rfl, a, rfl, ⟨_, SV (Evl.Ex.refl _)⟩, fun Dl hDl => lc_objs (K := K) (xs := vs) (fun k => .tup [.int (((a0 :: as).getD k 0 / g : Nat) : Int), .int 1]) (SV (Evl.Ex.refl _)) (by omega) hDl (fun i x Hc R hx ex k => ?_) (fun Hc hc => ?_)⟩
  · obtain ⟨y, b, y1, b1, ny, ony⟩ := idx (DV ex) onA hx
    have fy := hfit y (List.mem_of_getElem? y1)
    refine ⟨_, rfl, _, rfl, (bin_num ny (NL' ex) fy.i fL.i (w4 fy.b1 (by decide)) (w4 fy.b2 (by decide)) (w4 fL.b1 (by decide)) (w4 fL.b2 (by decide)) ⟨fun z => absurd z (Int.ne_of_gt fL.p), fun _ => (fun t G ht eG dG => ?_)⟩ : spDiv K D.InvalidNumber [_, _] _ _ _)⟩
    rw [ony.quot oL (dv b (List.mem_of_getElem? b1))] at dG
    refine k t G ht eG ?_
    rw [dG, List.getD_eq_getElem?_getD, b1]
    rfl
  have exc : Ex H4 Hc := hc.choose_spec.2.2.2
  obtain ⟨acc, ha1, ha2⟩ := Lcs.pairs (K := K) (ps := (a0 :: as).map fun (b : Nat) => (((b / g : Nat) : Int), (1 : Int))) (by rw [List.length_map, List.length_cons, la, lx]) hc (fun k y hk => by
    rw [List.getElem?_map] at hk
    cases e : (a0 :: as)[k]? with
    | none => rw [e] at hk; cases hk
    | some b => rw [e] at hk; cases hk; rw [List.getD_eq_getElem?_getD, e]; rfl)
  refine ⟨_, rfl, Dl, acc, (a0 :: as).map (· / g), rfl, SqL.of ha1, by rw [List.map_map]; rw [numD, List.map_map] at ha2; exact ha2, fun q hq' => ?_, coprime_below hg'.symm on0.ap, _, rfl, iteF ?_⟩
  · obtain ⟨b, hb, rfl⟩ := List.mem_map.mp hq'
    exact Nat.div_pos (Nat.le_of_dvd (ap b hb) (dv b hb)) gp
  -- the quotients of the most
  refine ⟨_, rfl, a, rfl, ⟨_, SV exc⟩, fun Dm hDm => lc_objs (K := K) (xs := vs) (fun k => .tup [.int ((l / (a0 :: as).getD k 0 : Nat) : Int), .int 1]) (SV exc) (by omega) hDm (fun i x Hd R hx ex k => ?_) (fun Hd hd' => ?_)⟩
  · obtain ⟨y, b, y1, b1, ny, ony⟩ := idx (DV (exc.trans ex)) onA hx
    have fy := hfit y (List.mem_of_getElem? y1)
    refine ⟨_, rfl, _, rfl, (bin_num (NM' (exc.trans ex)) ny fM.i fy.i (w4 fM.b1 (by decide)) (w4 fM.b2 (by decide)) (w4 fy.b1 (by decide)) (w4 fy.b2 (by decide)) ⟨fun z => absurd z (Int.ne_of_gt fy.p), fun _ => (fun t G ht eG dG => ?_)⟩ : spDiv K D.InvalidNumber [_, _] _ _ _)⟩
    rw [oM.quot ony (dw b (List.mem_of_getElem? b1))] at dG
    refine k t G ht eG ?_
    rw [dG, List.getD_eq_getElem?_getD, b1]
    rfl
  have exd : Ex H4 Hd := exc.trans hd'.choose_spec.2.2.2
  obtain ⟨acc2, hb1, hb2⟩ := Lcs.pairs (K := K) (ps := (a0 :: as).map fun (b : Nat) => (((l / b : Nat) : Int), (1 : Int))) (by rw [List.length_map, List.length_cons, la, lx]) hd' (fun k y hk => by
    rw [List.getElem?_map] at hk
    cases e : (a0 :: as)[k]? with
    | none => rw [e] at hk; cases hk
    | some b => rw [e] at hk; cases hk; rw [List.getD_eq_getElem?_getD, e]; rfl)
  refine ⟨_, rfl, Dm, acc2, (a0 :: as).map (l / ·), rfl, SqL.of hb1, by rw [List.map_map]; rw [numD, List.map_map] at hb2; exact hb2, fun q hq' => ?_, coprime_above hl.symm lp, _, rfl, iteF ?_⟩
  · obtain ⟨b, hb, rfl⟩ := List.mem_map.mp hq'
    exact Nat.div_pos (Nat.le_of_dvd lp (dw b hb)) (ap b hb)
  -- turned round
  obtain ⟨y0, ys, hrev⟩ := rev_cons x0 xs
  obtain ⟨b0, bs, hrevA⟩ := rev_cons a0 as
  have onR : OnL N (y0 :: ys) (b0 :: bs) := by rw [← hrev, ← hrevA]; exact onA.rev
  obtain ⟨sm1, sm2⟩ := same onR (fun c => by rw [← hrevA, List.mem_reverse])
  have fR : ∀ y ∈ y0 :: ys, Fit 100 y := fun y hy => f1 y (by rw [← hrev, List.mem_reverse] at hy; exact hy)
  have ylen : ys.length ≤ 3 := by
    have := congrArg List.length hrev
    simp at this
    omega
  have DR : ∀ {G : Hp}, Ex H4 G → DpAll K G vs.reverse (numD (y0 :: ys)) := fun e => by
    rw [← hrev]
    unfold numD
    rw [List.map_reverse]
    exact Rm.DpAll.rev (DV e)
  refine ⟨_, rfl, a, vs, rfl, SV exd, fun r1 hr1 => ?_⟩
  have q1 := exd.trans (Evl.Ex.new (o := .lst vs.reverse) hr1)
  refine (fold_num (SqL.of upd_same) (DR q1) ylen fR (fun v1 G1 n1 p1 => ?_) : spFoldL meas K D.InvalidNumber [.ref r1] _ _ _)
  rw [← sm1] at n1
  refine ⟨_, rfl, a, vs, rfl, SV (q1.trans p1), fun r2 hr2 => ?_⟩
  have q2 := Evl.Ex.new (o := .lst vs.reverse) hr2
  refine (fold_num (SqL.of upd_same) (DR ((q1.trans p1).trans q2)) ylen fR (fun v2 G2 n2 p2 => ?_) : spFoldL lmul K D.InvalidNumber [.ref r2] _ _ _)
  rw [← sm2] at n2
  have q3 := ((q1.trans p1).trans q2).trans p2
  replace n1 := n1.c (Car.ex (q2.trans p2))
  refine ⟨sz5 (by simp), fun l1 hl1 => ⟨_, rfl, _, rfl, sz5 (by simp), fun l2 hl2 => ?_⟩⟩
  have z1 := Evl.Ex.new (o := .lst [v1, v2]) hl1
  have z2 := Evl.Ex.new (o := .lst [.ref la', .ref ma']) hl2
  have q4 := q3.trans (z1.trans z2)
  refine ⟨_, _, (Car.ex z2).d (Dp.pairN hl1 n1 n2), Dp.pairN hl2 (NL' (q3.trans z1)) (NM' (q3.trans z1)), pairD_ok _ _, pairD_ok _ _, _, rfl, iteB (fun c => absurd c (by rw [pairD_eq]; simp)) (fun _ => ?_)⟩
  -- one alone
  refine ⟨_, rfl, _, _, rfl, .inl ⟨_, SV q4, rfl⟩, rfl, _, rfl, and2_in (fun c R hR => ?_) (fun G6 e6 => iteF ?_)⟩
  · have v1' : vs.length = 1 := by have := V.int.inj (of_decide_eq_true c); omega
    have xnil : xs = [] := List.length_eq_zero_iff.mp (by omega)
    subst xnil
    obtain ⟨v0, rfl⟩ : ∃ v0, vs = [v0] := by
      match vs, v1' with
      | [v0], _ => exact ⟨v0, rfl⟩
    have eL : x0 = L := hLd
    have eM : x0 = M := hMd
    refine ⟨_, rfl, _, rfl, sz5 (by simp), fun l3 hl3 => ?_⟩
    have z3 := Evl.Ex.new (o := .lst [.ref la', .ref ma']) hl3
    refine ⟨_, rfl, a, 2, [v0], rfl, rfl, (g4.trans (q4.trans z3)) _ _ hL, by decide, by decide, by rw [sizeLine_eq]; show 1 * 2 ≤ 16777216; decide, fun l4 hl4 => ?_⟩
    have z4 := Evl.Ex.new (o := .lst (List.replicate (2 : Int).toNat [v0]).flatten) hl4
    have nv := one_num (DV (q4.trans z3))
    have d4 := Dp.pairN hl4 nv nv
    refine ⟨_, _, (Car.ex z4).d (Dp.pairN hl3 (NL' q4) (NM' q4)), d4, pairD_ok _ _, pairD_ok _ _, _, rfl, ?_⟩
    show R (!PyData.eqv (pairD L M) (pairD x0 x0)) _
    rw [← eL, ← eM, pairD_eq]
    exact hR _ (z3.trans z4)
  have q6 := q4.trans e6
  -- two
  refine ⟨_, rfl, _, _, rfl, .inl ⟨_, SV q6, rfl⟩, rfl, _, rfl, and2_in (fun c R hR => ?_) (fun G7 e7 => iteF ?_)⟩
  · have v1' : vs.length = 2 := by have := V.int.inj (of_decide_eq_true c); omega
    obtain ⟨v0, v1, rfl⟩ : ∃ v0 v1, vs = [v0, v1] := by
      match vs, v1' with
      | [v0, v1], _ => exact ⟨v0, v1, rfl⟩
    obtain ⟨x1, rfl⟩ : ∃ x1, xs = [x1] := by
      match xs, (show xs.length = 1 by omega) with
      | [x1], _ => exact ⟨x1, rfl⟩
    obtain ⟨b1, rfl⟩ : ∃ b1, as = [b1] := by
      match as, (show as.length = 1 by omega) with
      | [b1], _ => exact ⟨b1, rfl⟩
    have on1 : On N x1 b1 := by cases on with | cons h _ => exact h
    have ee : g * l = a0 * b1 := by rw [← hg', ← hl]; exact Nat.gcd_mul_lcm a0 b1
    obtain ⟨k0, k1⟩ := two_num (DV q6)
    have f0 := hfit x0 List.mem_cons_self
    have f1' := hfit x1 (List.mem_cons_of_mem _ List.mem_cons_self)
    refine ⟨_, rfl, _, rfl, (bin_num (NL' q6) (NM' q6) fL.i fM.i (w4 fL.b1 (by decide)) (w4 fL.b2 (by decide)) (w4 fM.b1 (by decide)) (w4 fM.b2 (by decide)) (fun t1 G1 ht1 p1' d1 => ?_) : spMul K D.InvalidNumber [.ref la', .ref ma'] _ _ _)⟩
    rw [On.prod oL oM on0 on1 ee] at d1
    refine ⟨_, rfl, _, _, _, _, rfl, rfl, SV (q6.trans p1'), rfl, _, rfl, _, _, _, _, rfl, rfl, SV (q6.trans p1'), rfl, (bin_num (k0.c (Car.ex p1')) (k1.c (Car.ex p1')) f0.i f1'.i (w4 f0.b1 (by decide)) (w4 f0.b2 (by decide)) (w4 f1'.b1 (by decide)) (w4 f1'.b2 (by decide)) (fun t2 G2 ht2 p2' d2 => ?_) : spMul K D.InvalidNumber [v0, v1] _ _ _)⟩
    refine ⟨_, _, ((NumAt.new d1).c (Car.ex p2')).d, (NumAt.new d2).d, shaped_num _ _, shaped_num _ _, _, rfl, ?_⟩
    rw [eqv_num, decide_eq_true rfl, decide_eq_true rfl]
    exact hR _ (p1'.trans p2')
  have q7 := q6.trans e7
  clear q6 q4 q3 q2 q1
  -- the first once more
  have c1 : cutV vs none (some 1) = vs.take 1 := cut_to (k := 1)
  have c4 : ∀ ws : List V, cutV ws none (some 4) = ws.take 4 := fun ws => cut_to (k := 4)
  refine ⟨_, rfl, _, rfl, _, rfl, a, vs, rfl, SV q7, fun s1 hs1 => ?_⟩
  have y1 := Evl.Ex.new (o := .lst (cutV vs none (some 1))) hs1
  refine ⟨a, s1, vs, _, rfl, rfl, SV (q7.trans y1), SqL.of upd_same, by rw [c1, List.length_take, sizeLine_eq]; omega, fun s2 hs2 => ?_⟩
  have y2 := Evl.Ex.new (o := .lst (vs ++ cutV vs none (some 1))) hs2
  refine ⟨_, rfl, s2, _, rfl, SqL.of upd_same, fun tw htw => ?_⟩
  have y3 := Evl.Ex.new (o := .lst (cutV (vs ++ cutV vs none (some 1)) none (some 4))) htw
  have q8 := q7.trans (y1.trans (y2.trans y3))
  have stw := SqL_new (K := K) (vs := cutV (vs ++ cutV vs none (some 1)) none (some 4)) htw
  refine ⟨_, rfl, _, _, rfl, .inl ⟨_, SV q8, rfl⟩, _, _, rfl, rfl, _, rfl, and2_in (fun c R hR => ?_) (fun G9 e9 => iteF ?_)⟩
  · have v1' : vs.length < 4 := by have := of_decide_eq_true c; omega
    have hw : cutV (vs ++ cutV vs none (some 1)) none (some 4) = vs ++ vs.take 1 := by
      rw [c4, c1, List.take_of_length_le (by rw [List.length_append, List.length_take]; omega)]
    have DT : ∀ {G : Hp}, Ex H4 G → DpAll K G (cutV (vs ++ cutV vs none (some 1)) none (some 4)) (numD (x0 :: (xs ++ [x0]))) := fun e => by
      rw [hw]
      have : numD (x0 :: (xs ++ [x0])) = numD (x0 :: xs) ++ (numD (x0 :: xs)).take 1 := by simp [numD]
      rw [this]
      exact DpAll.app (DV e) (DpAll.take 1 (DV e))
    have fT : ∀ y ∈ x0 :: (xs ++ [x0]), Fit 100 y := fun y hy => f1 y (by simp at hy ⊢; rcases hy with h | h | h <;> simp [h])
    have onT : OnL N (x0 :: (xs ++ [x0])) (a0 :: (as ++ [a0])) := .cons on0 (on.app (.cons on0 .nil))
    obtain ⟨tm1, tm2⟩ := same onT (fun c => by
      simp only [List.mem_cons, List.mem_append, List.not_mem_nil, or_false]
      constructor
      · rintro (h | h)
        · exact .inl h
        · exact .inr (.inl h)
      · rintro (h | h | h)
        · exact .inl h
        · exact .inr h
        · exact .inl h)
    have tl : (xs ++ [x0]).length ≤ 3 := by rw [List.length_append]; simp; omega
    refine ⟨_, rfl, (fold_num stw (DT q8) tl fT (fun v1 G1 n1 p1 => ?_) : spFoldL meas K D.InvalidNumber [.ref tw] _ _ _)⟩
    rw [← tm1] at n1
    refine ⟨_, rfl, (fold_num ((Car.ex p1).l stw) (DT (q8.trans p1)) tl fT (fun v2 G2 n2 p2 => ?_) : spFoldL lmul K D.InvalidNumber [.ref tw] _ _ _)⟩
    rw [← tm2] at n2
    replace n1 := n1.c (Car.ex p2)
    have q9 := q8.trans (p1.trans p2)
    refine ⟨sz5 (by simp), fun l1 hl1 => ⟨_, rfl, _, rfl, sz5 (by simp), fun l2 hl2 => ?_⟩⟩
    have z1 := Evl.Ex.new (o := .lst [v1, v2]) hl1
    have z2 := Evl.Ex.new (o := .lst [.ref la', .ref ma']) hl2
    refine ⟨_, _, (Car.ex z2).d (Dp.pairN hl1 n1 n2), Dp.pairN hl2 (NL' (q9.trans z1)) (NM' (q9.trans z1)), pairD_ok _ _, pairD_ok _ _, _, rfl, ?_⟩
    rw [pairD_eq]
    exact hR _ ((p1.trans p2).trans (z1.trans z2))
  have qA := q8.trans e9
  clear q8 q7 stw
  -- scaled
  refine ⟨_, rfl, a, rfl, ⟨_, SV qA⟩, fun Ds hDs => lc_objs (K := K) (xs := vs) (fun k => .tup [.int (sc ((x0 :: xs).getD k x0)).1, .int (sc ((x0 :: xs).getD k x0)).2]) (SV qA) (by omega) hDs (fun i x Hs R hx ex k => ?_) (fun Hs hs' => ?_)⟩
  · obtain ⟨y, b, y1', b1, ny, ony⟩ := idx (DV (qA.trans ex)) onA hx
    have fy := hfit y (List.mem_of_getElem? y1')
    refine ⟨_, rfl, sz5 (by simp), fun t6 ht6 => ?_⟩
    have z6 := Evl.Ex.new (o := .tup [.int 6, .int 35]) ht6
    refine (bin_num (ny.c (Car.ex z6)) (NumAt.new upd_same) fy.i fit635.i (w4 fy.b1 (by decide)) (w4 fy.b2 (by decide)) (w4 fit635.b1 (by decide)) (w4 fit635.b2 (by decide)) (fun t G ht eG dG => ?_) : spMul K D.InvalidNumber [_, .ref t6] _ _ _)
    refine k t G (Evl.fresh_back z6 ht) (z6.trans eG) ?_
    rw [dG, List.getD_eq_getElem?_getD, y1']
    rfl
  have exs : Ex H4 Hs := qA.trans hs'.choose_spec.2.2.2
  obtain ⟨acc3, hs1', hs2'⟩ := Lcs.pairs (K := K) (ps := sc x0 :: xs.map sc) (by simp [lx]) hs' (fun k y hk => by
    have hk' : ((x0 :: xs).map sc)[k]? = some y := hk
    rw [List.getElem?_map] at hk'
    cases e : (x0 :: xs)[k]? with
    | none => rw [e] at hk'; cases hk'
    | some b => rw [e] at hk'; cases hk'; rw [List.getD_eq_getElem?_getD, e]; rfl)
  have fS : ∀ y ∈ sc x0 :: xs.map sc, Fit 100 y := fun y hy => by
    have : y ∈ (x0 :: xs).map sc := hy
    obtain ⟨u, hu, rfl⟩ := List.mem_map.mp this
    exact (hfit u hu).sc.mono (by decide)
  have eqL : (xs.map sc).foldl meas (sc x0) = sc L := On.ext (on.sc.meas on0.sc) (by rw [gcdF_mul, hg']; exact oL.sc)
  have eqM : (xs.map sc).foldl lmul (sc x0) = sc M := On.ext (on.sc.lmul on0.sc) (by rw [lcmF_mul, hl]; exact oM.sc)
  refine ⟨_, rfl, (fold_num (SqL.of hs1') hs2' (by rw [List.length_map]; omega) fS (fun v1 G1 n1 p1 => ?_) : spFoldL meas K D.InvalidNumber [.ref Ds] _ _ _)⟩
  rw [eqL] at n1
  refine ⟨_, rfl, (fold_num (SqL.of (p1 _ _ hs1')) ((Car.ex p1).ds hs2') (by rw [List.length_map]; omega) fS (fun v2 G2 n2 p2 => ?_) : spFoldL lmul K D.InvalidNumber [.ref Ds] _ _ _)⟩
  rw [eqM] at n2
  replace n1 := n1.c (Car.ex p2)
  refine ⟨sz5 (by simp), fun l1 hl1 => ?_⟩
  have z1 := Evl.Ex.new (o := .lst [v1, v2]) hl1
  have dl1 := Dp.pairN hl1 n1 n2
  have qB := exs.trans ((p1.trans p2).trans z1)
  refine ⟨_, rfl, sz5 (by simp), fun t6 ht6 => ?_⟩
  have z6 := Evl.Ex.new (o := .tup [.int 6, .int 35]) ht6
  refine (bin_num (NL' (qB.trans z6)) (NumAt.new upd_same) fL.i fit635.i (w4 fL.b1 (by decide)) (w4 fL.b2 (by decide)) (w4 fit635.b1 (by decide)) (w4 fit635.b2 (by decide)) (fun t7 G7' ht7 e7' d7 => ?_) : spMul K D.InvalidNumber [.ref la', .ref t6] _ _ _)
  refine ⟨_, rfl, sz5 (by simp), fun t8 ht8 => ?_⟩
  have z8 := Evl.Ex.new (o := .tup [.int 6, .int 35]) ht8
  have qC := (qB.trans z6).trans (e7'.trans z8)
  refine (bin_num (NM' qC) (NumAt.new upd_same) fM.i fit635.i (w4 fM.b1 (by decide)) (w4 fM.b2 (by decide)) (w4 fit635.b1 (by decide)) (w4 fit635.b2 (by decide)) (fun t9 G9' ht9 e9' d9 => ?_) : spMul K D.InvalidNumber [.ref ma', .ref t8] _ _ _)
  refine ⟨sz5 (by simp), fun l2 hl2 => ?_⟩
  have z9 := Evl.Ex.new (o := .lst [.ref t7, .ref t9]) hl2
  have w7 : NumAt K G9' (.ref t7) (sc L).1 (sc L).2 := (NumAt.new d7).c (Car.ex (z8.trans e9'))
  have w9 : NumAt K G9' (.ref t9) (sc M).1 (sc M).2 := NumAt.new d9
  refine ⟨_, _, (Car.ex (((z6.trans e7').trans (z8.trans e9')).trans z9)).d dl1, Dp.pairN hl2 w7 w9, pairD_ok _ _, pairD_ok _ _, ?_⟩
  rw [pairD_eq]
  exact hq _ (g4.trans ((qC.trans e9').trans z9))
theorem ok__law_right (T : Txt P K mg D) : CallG P w K mg base 7 D._law_right [] (spRight K) := by
  obtain ⟨fd, F, B⟩ := fb__law_right (w := w) (base := base) T
  exact B.pos sp1_len (F.binds (ps := ["some"]) fun _ _ _ _ _ _ us hl => match us, hl with | [_], _ => rfl)
abbrev N__law_word : List Str := ["way", "some", "caught", "e"]
theorem sc__law_word : FnScope N__law_word ["way", "some"] (defScope s__law_word) := ⟨rfl, rfl, rfl, by decide +kernel, rfl, by decide +kernel, by decide +kernel⟩
def spWord (K : Frag) : Sp := sp2 fun x y H Q _ => ∃ way a vs ds, x = .int way ∧ y = .ref a ∧ SqL K H a vs ∧ DpAll K H vs ds ∧ SeqAt.shaped (.list ds) = true ∧ (way = 0 ∨ way = 1) ∧
  ((vs = [] ∧ ∀ p H', H p = none → Ex H H' → H' p = some (.lst [.str "count", .int 0]) → Q (.ref p) H') ∨ (∃ z, fbP vs ds = some z ∧ vs.length ≤ 4 ∧ vs ≠ [] ∧ ∀ p H', H p = none → Ex H H' → H' p = some (.lst [.str "number", z]) → Q (.ref p) H'))
theorem fb__law_word (T : Txt P K mg D) : ∃ fd, Fun K "_law_word" "_law_word" s__law_word D._law_word fd ∧ FnB P w K mg base 7 D._law_word fd ["way", "some"] (spWord K) := by
  obtain ⟨fd, F⟩ := T.f__law_word
  refine ⟨fd, F, Fun_okB (k := 6) F sc__law_word fun cdv A outer s H vs Q E hr hg h => ?_⟩
  have nd := sc__law_word.nd
  obtain ⟨x, y, rfl, way, a, vs, ds, rfl, rfl, ha, hds, hsh, hw, hcase⟩ := h
  refine ⟨_, (pss_cons (ps_set (i := 2) nd rfl (.inl rfl) pe_non)
        (pss_cons (ps_try_caught (i := 3) (j := 2) rfl rfl nd rfl rfl rfl rfl ⟨rfl, by decide, .inl T.g_PaceError⟩ ⟨rfl, by decide, .inl T.g_StateError⟩ ⟨rfl, by decide, .inl T.g_MissingError⟩ (takes_of rfl rfl rfl rfl) (fun W pn xe tk' _ => (pss_one (ps_if (pt_cmpR (op_eqDK (K := K) rfl hr.units) (pv 1) (pe_lst pa_nil) (nomark _)) (pss_one (ps_expr (pe_ifExp (pt_cmpR op_eq (pv 0) pe_int (nomark _)) (pe_callG0 (ok_greatest_measure T) (hr.mono (by decide)) hg tk' rfl T.g_greatest_measure T.k_greatest_measure) (pe_callG0 (ok_least_multiple T) (hr.mono (by decide)) hg tk' rfl T.g_least_multiple T.k_least_multiple)))) (pss_one (ps_expr (pe_ifExp (pt_cmpR op_eq (pv 0) pe_int (nomark _)) (pe_callG (ok__law_measure T) (hr.mono (by decide)) hg tk' rfl T.g__law_measure T.k__law_measure (pa_cons (pv 1) pa_nil)) (pe_callG (ok__law_multiple T) (hr.mono (by decide)) hg tk' rfl T.g__law_multiple T.k__law_multiple (pa_cons (pv 1) pa_nil)))))))))
        (pss_cons (ps_if (pt_cmpR op_isN (pv 2) pe_non (nomark _)) (pss_one (ps_ret (pe_lst (pa_cons pe_str pa_nil)))) pss_nil)
        (pss_cons (ps_if (pt_val (pe_callB call_isX rfl T.n_isinstance (by decide +kernel) (pa_cons (pv 2) (pa_cons (pe_glob (v := .ref D.InvalidCount) rfl T.g_InvalidCount rfl) pa_nil)))) (pss_one (ps_ret (pe_lst (pa_cons pe_str (pa_cons (pe_xat (pv 2)) pa_nil))))) pss_nil)
        (pss_one (ps_ret (pe_ifExp (pt_val (pe_callB call_isX rfl T.n_isinstance (by decide +kernel) (pa_cons (pv 2) (pa_cons (pe_glob (v := .ref D.InvalidNumber) rfl T.g_InvalidNumber rfl) pa_nil)))) (pe_lst (pa_cons pe_str (pa_cons (pe_xat (pv 2)) pa_nil))) (pe_lst (pa_cons pe_str pa_nil))))))))), ?_⟩
  have hsh0 : SeqAt.shaped (.list []) = true := by simp [SeqAt.shaped, PyData.canLay0, PyData.canLayAll0, PyData.depth, PyData.depthAll]
  refine ⟨_, rfl, sz5 (by simp), fun l0 hl0 => ?_⟩
  have e0 := Evl.Ex.new (o := .lst []) hl0
  have ha0 := (Car.ex e0).l ha
  have hds0 := (Car.ex e0).ds hds
  have d0 : Dp K _ (.ref l0) (.list []) := Dp.lstN hl0 .nil
  refine ⟨_, _, .lst ha0 hds0, d0, hsh, hsh0, _, rfl, ?_⟩
  rcases hcase with ⟨rfl, hq⟩ | ⟨z, hz, h4, hne, hq⟩
  · cases hds
    have he : PyData.eqv (.list []) (.list []) = true := by simp [PyData.eqv, PyData.eqvAll]
    replace hq := fun p H' h1 h2 => hq p H' (Evl.fresh_back e0 h1) (e0.trans h2)
    refine iteB (fun _ => ?_) (fun c => absurd he (by rw [c]; simp))
    rcases hw with rfl | rfl
    · refine ⟨_, rfl, rfl, _, rfl, iteT ⟨by rw [sizeLine_eq]; decide, fun t ht => ⟨_, rfl, t, [], [], rfl, SqT.of upd_same, .nil, by decide, fun _ => ?_, fun h => absurd rfl h⟩⟩⟩
      refine RErr.ex (Evl.Ex.new ht) (fun dd H1 e1 hdd => ⟨true, T.e_InvalidCount, fun _ a' ha' => ?_, fun z => by cases z⟩)
      have hd' : upd H1 a' (xV a' (.ref D.InvalidCount) (some dd) false) dd = some (.xd [("count", (V.int 0))]) := by rw [upd_ne (ne_of_none hdd ha')]; exact hdd
      have hA' : upd H1 a' (xV a' (.ref D.InvalidCount) (some dd) false) a' = some (xV a' (.ref D.InvalidCount) (some dd) false) := upd_same
      have lk : List.lookup ("count" : Str) [(("count" : Str), ((V.int 0) : V))] = some (V.int 0) := by kernel_rfl
      have eA := e1.trans (Evl.Ex.new (o := xV a' (.ref D.InvalidCount) (some dd) false) ha')
      exact ⟨_, rfl, rfl, _, rfl, iteF ⟨_, rfl, a', _, dd, _, _, _, _, _, rfl, .own _, hA', hd', T.t_InvalidCount, T.i_cc, _, rfl, iteT ⟨_, rfl, a', _, dd, _, _, _, rfl, hA', hd', T.t_InvalidCount, T.h_InvalidCount, lk, sz5 (by show 2 ≤ 1000; decide), fun p hp => hq p _ (Evl.fresh_back eA hp) (eA.trans (Evl.Ex.new hp)) upd_same⟩⟩⟩
    · refine ⟨_, rfl, rfl, _, rfl, iteF ⟨by rw [sizeLine_eq]; decide, fun t ht => ⟨_, rfl, t, [], [], rfl, SqT.of upd_same, .nil, by decide, fun _ => ?_, fun h => absurd rfl h⟩⟩⟩
      refine RErr.ex (Evl.Ex.new ht) (fun dd H1 e1 hdd => ⟨true, T.e_InvalidCount, fun _ a' ha' => ?_, fun z => by cases z⟩)
      have hd' : upd H1 a' (xV a' (.ref D.InvalidCount) (some dd) false) dd = some (.xd [("count", (V.int 0))]) := by rw [upd_ne (ne_of_none hdd ha')]; exact hdd
      have hA' : upd H1 a' (xV a' (.ref D.InvalidCount) (some dd) false) a' = some (xV a' (.ref D.InvalidCount) (some dd) false) := upd_same
      have lk : List.lookup ("count" : Str) [(("count" : Str), ((V.int 0) : V))] = some (V.int 0) := by kernel_rfl
      have eA := e1.trans (Evl.Ex.new (o := xV a' (.ref D.InvalidCount) (some dd) false) ha')
      exact ⟨_, rfl, rfl, _, rfl, iteF ⟨_, rfl, a', _, dd, _, _, _, _, _, rfl, .own _, hA', hd', T.t_InvalidCount, T.i_cc, _, rfl, iteT ⟨_, rfl, a', _, dd, _, _, _, rfl, hA', hd', T.t_InvalidCount, T.h_InvalidCount, lk, sz5 (by show 2 ≤ 1000; decide), fun p hp => hq p _ (Evl.fresh_back eA hp) (eA.trans (Evl.Ex.new hp)) upd_same⟩⟩⟩
  · have he : PyData.eqv (.list ds) (.list []) = false := by
      cases hds with
      | nil => exact absurd rfl hne
      | cons _ _ => simp [PyData.eqv, PyData.eqvAll]
    replace hq := fun p H' h1 h2 => hq p H' (Evl.fresh_back e0 h1) (e0.trans h2)
    refine iteB (fun c => absurd c (by rw [he]; simp)) (fun _ => ?_)
    have h1 : 1 ≤ vs.length := by
      cases vs with
      | nil => exact absurd rfl hne
      | cons _ _ => simp
    have nn : ∀ x0 xs, ds = numD (x0 :: xs) → (∀ y ∈ x0 :: xs, IsNum y.1 y.2 ∧ 0 < y.1) → False := fun x0 xs e h => by
      rw [e, fbP_num h] at hz
      cases hz
    rcases hw with rfl | rfl
    · refine ⟨_, rfl, rfl, _, rfl, iteT ⟨_, rfl, _, rfl, a, vs, ds, rfl, ha0, hds0, h1, h4, fun z' hz' => ?_, fun x0 xs e hy => absurd (nn x0 xs e hy) id⟩⟩
      · rw [hz] at hz'
        cases hz'
        refine fun dd H1 e1 hdd => ⟨true, T.e_InvalidNumber, fun _ a' ha' => ?_, fun z => by cases z⟩
        have hd' : upd H1 a' (xV a' (.ref D.InvalidNumber) (some dd) false) dd = some (.xd [("thing", z)]) := by rw [upd_ne (ne_of_none hdd ha')]; exact hdd
        have hA' : upd H1 a' (xV a' (.ref D.InvalidNumber) (some dd) false) a' = some (xV a' (.ref D.InvalidNumber) (some dd) false) := upd_same
        have lk : List.lookup ("thing" : Str) [(("thing" : Str), (z : V))] = some z := by kernel_rfl
        have eA := e1.trans (Evl.Ex.new (o := xV a' (.ref D.InvalidNumber) (some dd) false) ha')
        exact ⟨_, rfl, rfl, _, rfl, iteF ⟨_, rfl, a', _, dd, _, _, _, _, _, rfl, .own _, hA', hd', T.t_InvalidNumber, T.i_nc, _, rfl, iteF ⟨_, rfl, a', _, dd, _, _, _, _, _, rfl, .own _, hA', hd', T.t_InvalidNumber, T.i_nn, _, rfl, iteT ⟨_, rfl, a', _, dd, _, _, _, rfl, hA', hd', T.t_InvalidNumber, T.h_InvalidNumber, lk, sz5 (by show 2 ≤ 1000; decide), fun p hp => hq p _ (Evl.fresh_back eA hp) (eA.trans (Evl.Ex.new hp)) upd_same⟩⟩⟩⟩
    · refine ⟨_, rfl, rfl, _, rfl, iteF ⟨_, rfl, _, rfl, a, vs, ds, rfl, ha0, hds0, h1, h4, fun z' hz' => ?_, fun x0 xs e hy => absurd (nn x0 xs e hy) id⟩⟩
      · rw [hz] at hz'
        cases hz'
        refine fun dd H1 e1 hdd => ⟨true, T.e_InvalidNumber, fun _ a' ha' => ?_, fun z => by cases z⟩
        have hd' : upd H1 a' (xV a' (.ref D.InvalidNumber) (some dd) false) dd = some (.xd [("thing", z)]) := by rw [upd_ne (ne_of_none hdd ha')]; exact hdd
        have hA' : upd H1 a' (xV a' (.ref D.InvalidNumber) (some dd) false) a' = some (xV a' (.ref D.InvalidNumber) (some dd) false) := upd_same
        have lk : List.lookup ("thing" : Str) [(("thing" : Str), (z : V))] = some z := by kernel_rfl
        have eA := e1.trans (Evl.Ex.new (o := xV a' (.ref D.InvalidNumber) (some dd) false) ha')
        exact ⟨_, rfl, rfl, _, rfl, iteF ⟨_, rfl, a', _, dd, _, _, _, _, _, rfl, .own _, hA', hd', T.t_InvalidNumber, T.i_nc, _, rfl, iteF ⟨_, rfl, a', _, dd, _, _, _, _, _, rfl, .own _, hA', hd', T.t_InvalidNumber, T.i_nn, _, rfl, iteT ⟨_, rfl, a', _, dd, _, _, _, rfl, hA', hd', T.t_InvalidNumber, T.h_InvalidNumber, lk, sz5 (by show 2 ≤ 1000; decide), fun p hp => hq p _ (Evl.fresh_back eA hp) (eA.trans (Evl.Ex.new hp)) upd_same⟩⟩⟩⟩
theorem ok__law_word (T : Txt P K mg D) : CallG P w K mg base 7 D._law_word [] (spWord K) := by
  obtain ⟨fd, F, B⟩ := fb__law_word (w := w) (base := base) T
  exact B.pos sp2_len (F.binds (ps := ["way", "some"]) fun _ _ _ _ _ _ us hl => match us, hl with | [_, _], _ => rfl)
abbrev N_law : List Str := ["script", "draw", "turn", "some", "stays", "odd", "at", "bad", "way"]
theorem sc_law : FnScope N_law ["script"] (defScope s_law) := ⟨rfl, rfl, rfl, by decide +kernel, rfl, by decide +kernel, by decide +kernel⟩
theorem odds_ok : ∀ d ∈ ([.none, .bool true, .int 2, .tuple [.int 0, .int 1], .tuple [.int (-1), .int 2], .tuple [.int 2, .int 4], .tuple [.int 1], .str "1", .list [.int 1, .int 1], .tuple [.int 1, .int 0]] : List PyData), isPosD d = false ∧ Gd 2 100000 d ∧ d.canLay0 = true := by
  intro d hd
  simp only [List.mem_cons, List.not_mem_nil, or_false] at hd
  rcases hd with rfl | rfl | rfl | rfl | rfl | rfl | rfl | rfl | rfl | rfl <;> exact ⟨by decide, ⟨by simp [PyData.showable, PyData.showableAll] <;> decide, by simp [PyData.hasDict, PyData.hasDictAll], by simp [PyData.depth, PyData.depthAll], by simp [wt, wtAll] <;> decide +kernel⟩, by simp [PyData.canLay0, PyData.canLayAll0] <;> decide +kernel⟩
def spLaw (K : Frag) : Sp := sp1 fun x H Q _ => ∃ (a : Addr) (ns : List Int), x = .ref a ∧ SqL K H a (ns.map V.int) ∧ ns.length ≤ 63 ∧ ∀ H', Q (.bl true) H'
theorem fb_law (T : Txt P K mg D) : ∃ fd, Fun K "law" "law" s_law D.law fd ∧ FnB P w K mg base 8 D.law fd ["script"] (spLaw K) := by
  obtain ⟨fd, F⟩ := T.f_law
  refine ⟨fd, F, Fun_okB (k := 7) F sc_law fun cdv A outer s H vs Q E hr hg h => ?_⟩
  have nd := sc_law.nd
  obtain ⟨x, rfl, a, ns, rfl, hs, hl, hq⟩ := h
  refine ⟨_, (pss_cons (ps_set (i := 1) nd rfl (.inl rfl) (pe_callG (ok__law_begin T) (hr.mono (by decide)) hg (takes_of rfl rfl rfl rfl) rfl T.g__law_begin T.k__law_begin (pa_cons (pv 0) pa_nil)))
        (pss_cons (ps_for (passes_of rfl) rfl (pi_range1 rfl T.n_range (pa_cons (pe_callB (call_min2 rfl) rfl T.n_min (by decide +kernel) (pa_cons pe_int (pa_cons (pe_op op_add pe_int (pe_callB call_len rfl T.n_len (by decide +kernel) (pa_cons (pv 0) pa_nil))) pa_nil))) pa_nil)) (pg_name (i := 2) nd rfl (.inl rfl)) (pss_cons (ps_set (i := 3) nd rfl (.inl rfl) (pe_callG (ok__law_some T) (hr.mono (by decide)) hg (takes_of rfl rfl rfl rfl) rfl T.g__law_some T.k__law_some (pa_cons (pv 1) pa_nil)))
        (pss_cons (ps_set (i := 4) nd rfl (.inl rfl) (pe_callB (call_reprD hr hg) rfl T.n_repr (by decide +kernel) (pa_cons (pv 3) pa_nil)))
        (pss_cons (ps_if (PW.pt (pw_or (pt_not (pt_val (pe_callG (ok__law_right T) (hr.mono (by decide)) hg (takes_of rfl rfl rfl rfl) rfl T.g__law_right T.k__law_right (pa_cons (pv 3) pa_nil)))) (pw_or1 (pt_cmpR op_ne (pe_callB (call_reprD hr hg) rfl T.n_repr (by decide +kernel) (pa_cons (pv 3) pa_nil)) (pv 4) (nomark _))))) (pss_one (ps_ret pe_bl)) pss_nil)
        (pss_cons (ps_set (i := 5) nd rfl (.inr rfl) (pe_ix ix_list (pe_lst (pa_cons pe_non (pa_cons pe_bl (pa_cons pe_int (pa_cons (pe_tup (pa_cons pe_int (pa_cons pe_int pa_nil))) (pa_cons (pe_tup (pa_cons (pe_un un_neg pe_int) (pa_cons pe_int pa_nil))) (pa_cons (pe_tup (pa_cons pe_int (pa_cons pe_int pa_nil))) (pa_cons (pe_tup (pa_cons pe_int pa_nil)) (pa_cons pe_str (pa_cons (pe_lst (pa_cons pe_int (pa_cons pe_int pa_nil))) (pa_cons (pe_tup (pa_cons pe_int (pa_cons pe_int pa_nil))) pa_nil))))))))))) (pe_callG (ok__law_next T) (hr.mono (by decide)) hg (takes_of rfl rfl rfl rfl) rfl T.g__law_next T.k__law_next (pa_cons (pv 1) (pa_cons pe_int pa_nil))) (fun _ _ => rfl)))
        (pss_cons (ps_set (i := 6) nd rfl (.inl rfl) (pe_callG (ok__law_next T) (hr.mono (by decide)) hg (takes_of rfl rfl rfl rfl) rfl T.g__law_next T.k__law_next (pa_cons (pv 1) (pa_cons (pe_callB call_len rfl T.n_len (by decide +kernel) (pa_cons (pv 3) pa_nil)) pa_nil))))
        (pss_cons (ps_set (i := 7) nd rfl (.inr rfl) (pe_op op_catL (pe_op op_catL (pe_slice sl_list (pv 3) po_none (po_some (pv 6))) (pe_lst (pa_cons (pv 5) pa_nil))) (pe_slice sl_list (pv 3) (po_some (pe_op op_add (pv 6) pe_int)) po_none)))
        (pss_cons (ps_if (pt_cmpR op_ne (pe_callB (call_reprD hr hg) rfl T.n_repr (by decide +kernel) (pa_cons (pe_lc (own := [("way", 8)]) (g := gName 8) (by rfl) nd (pi_range1 rfl T.n_range (pa_cons pe_int pa_nil)) (blkOk_by (own := [("way", 8)]) (N := N_law) (sc := defScope s_law) (by decide +kernel)) (fun _ _ _ _ _ => pg_name (i := 8) nd rfl (Or.inl rfl)) (fun _ _ _ _ _ => pts_nil) (fun _ _ _ _ _ => (pe_callG (ok__law_word T) (hr.mono (by decide)) hg takesF rfl T.g__law_word T.k__law_word (pa_cons (pv 8) (pa_cons (pv 7) pa_nil))))) pa_nil)) (pe_callB (call_reprD hr hg) rfl T.n_repr (by decide +kernel) (pa_cons (pe_op op_rep (pe_lst (pa_cons (pe_lst (pa_cons pe_str (pa_cons (pv 5) pa_nil))) pa_nil)) pe_int) pa_nil)) (nomark _)) (pss_one (ps_ret pe_bl)) pss_nil)
        (pss_one (ps_if (pt_cmpR op_ne (pe_callB (call_reprD hr hg) rfl T.n_repr (by decide +kernel) (pa_cons (pe_lc (own := [("way", 8)]) (g := gName 8) (by rfl) nd (pi_range1 rfl T.n_range (pa_cons pe_int pa_nil)) (blkOk_by (own := [("way", 8)]) (N := N_law) (sc := defScope s_law) (by decide +kernel)) (fun _ _ _ _ _ => pg_name (i := 8) nd rfl (Or.inl rfl)) (fun _ _ _ _ _ => pts_nil) (fun _ _ _ _ _ => (pe_callG (ok__law_word T) (hr.mono (by decide)) hg takesF rfl T.g__law_word T.k__law_word (pa_cons (pv 8) (pa_cons (pe_lst (pa_cons (pv 5) (pa_cons pe_non pa_nil))) pa_nil))))) pa_nil)) (pe_callB (call_reprD hr hg) rfl T.n_repr (by decide +kernel) (pa_cons (pe_op op_rep (pe_lst (pa_cons (pe_lst (pa_cons pe_str (pa_cons (pv 5) pa_nil))) pa_nil)) pe_int) pa_nil)) (nomark _)) (pss_one (ps_ret pe_bl)) pss_nil))))))))))
        (pss_one (ps_ret (pe_cmpR (op_eqD hr.units) (pe_lc (own := [("way", 8)]) (g := gName 8) (by rfl) nd (pi_range1 rfl T.n_range (pa_cons pe_int pa_nil)) (blkOk_by (own := [("way", 8)]) (N := N_law) (sc := defScope s_law) (by decide +kernel)) (fun _ _ _ _ _ => pg_name (i := 8) nd rfl (Or.inl rfl)) (fun _ _ _ _ _ => pts_nil) (fun _ _ _ _ _ => (pe_callG (ok__law_word T) (hr.mono (by decide)) hg takesF rfl T.g__law_word T.k__law_word (pa_cons (pv 8) (pa_cons (pe_lst pa_nil) pa_nil))))) (pe_op op_rep (pe_lst (pa_cons (pe_lst (pa_cons pe_str (pa_cons pe_int pa_nil))) pa_nil)) pe_int) (nomark _)))))), ?_⟩
  refine ⟨_, rfl, _, rfl, a, ns, rfl, hs, hl, fun d H1 hd e1 D1 => ?_⟩
  have hsl : SqL K H1 a (ns.map V.int) := (Car.ex e1).l hs
  have hml : (ns.map V.int).length = ns.length := List.length_map ..
  refine ⟨_, rfl, _, _, rfl, .inl ⟨_, hsl, rfl⟩, _, _, rfl, rfl, _, _, rfl, _, rfl, ?_⟩
  rw [hml]
  have hb : 0 ≤ (if 6 + (ns.length : Int) < 24 then 6 + (ns.length : Int) else 24) ∧ (if 6 + (ns.length : Int) < 24 then 6 + (ns.length : Int) else 24) ≤ 24 := by split <;> omega
  refine ⟨by omega, by omega, for_range (lo := 0) (fun i σ H' => ∃ t w sh od at' bd, σ = [some (.ref a), some (.ref d), t, w, sh, od, at', bd, none] ∧ DrawAt K H' d (1000 * i)) ⟨_, _, _, _, _, _, rfl, D1⟩ ?_ ?_⟩
  · rintro i σ H0 hi ⟨t, w, sh, od, at', bd, rfl, D0⟩
    have hi' : i < 25 := by omega
    refine ⟨_, rfl, _, rfl, d, _, rfl, D0, by omega, fun l vs ys H2 hL hds hfit h1 h4 D2 e2 => ?_⟩
    have gy := nums_gd hfit h4
    have lv : vs.length = ys.length := by rw [Rm.DpAll.len hds]; simp [numD]
    have pos : ∀ y ∈ ys, IsNum y.1 y.2 ∧ 0 < y.1 := fun y hy => ⟨(hfit y hy).i, (hfit y hy).p⟩
    refine ⟨_, rfl, _, _, rfl, .lst (SqL.of hL) hds, gy.s, gy.n, gy.p, gy.l, ?_⟩
    obtain ⟨x0, xs, rfl⟩ : ∃ x0 xs, ys = x0 :: xs := by
      cases ys with
      | nil => simp at h1
      | cons x0 xs => exact ⟨x0, xs, rfl⟩
    refine ⟨_, rfl, _, rfl, l, vs, x0, xs, rfl, hL, hds, hfit, by simp at h4; omega, fun H3 e3 => ⟨_, rfl, iteF ?_⟩⟩
    refine ⟨_, rfl, _, _, rfl, .lst (SqL.of (e3 _ _ hL)) ((Car.ex e3).ds hds), gy.s, gy.n, gy.p, gy.l, _, rfl, rfl, _, rfl, iteB (fun c => absurd c (by simp)) (fun _ => ?_)⟩
    have lv2 : vs.length = xs.length + 1 := by rw [lv]; simp
    have h42 : xs.length ≤ 3 := by simp at h4; omega
    have DS := D2.ex e3
    have eS : Exb d H3 H3 := Exb.refl
    have ld : l ≠ d := fun z => by
      obtain ⟨_, _, _, _, _, h, _⟩ := D2
      rw [← z, hL] at h
      cases h
    have hL3 := e3 _ _ hL
    have hds3 := (Car.ex e3).ds hds
    have W := DS
    have e := eS
    refine ⟨sz5 (by simp), fun m1 h_m1 => ?_⟩
    have d_m1 := Dp.tupN (K := K) h_m1 ((.cons (.int (0)) (.cons (.int (1)) .nil)) : DpAll K _ ([.int (0), .int (1)] : List V) ([.int (0), .int (1)] : List PyData))
    have W := W.ex (Evl.Ex.new (o := HO.tup [.int (0), .int (1)]) h_m1)
    have e := Exb.ex e (Evl.Ex.new (o := HO.tup [.int (0), .int (1)]) h_m1)
    refine ⟨_, rfl, sz5 (by simp), fun m2 h_m2 => ?_⟩
    have d_m2 := Dp.tupN (K := K) h_m2 ((.cons (.int (-1)) (.cons (.int (2)) .nil)) : DpAll K _ ([(.int (-1)), .int (2)] : List V) ([.int (-1), .int (2)] : List PyData))
    have d_m1 := Dp.new (HO.tup [(.int (-1)), .int (2)]) h_m2 d_m1
    have W := W.ex (Evl.Ex.new (o := HO.tup [(.int (-1)), .int (2)]) h_m2)
    have e := Exb.ex e (Evl.Ex.new (o := HO.tup [(.int (-1)), .int (2)]) h_m2)
    refine ⟨sz5 (by simp), fun m3 h_m3 => ?_⟩
    have d_m3 := Dp.tupN (K := K) h_m3 ((.cons (.int (2)) (.cons (.int (4)) .nil)) : DpAll K _ ([.int (2), .int (4)] : List V) ([.int (2), .int (4)] : List PyData))
    have d_m1 := Dp.new (HO.tup [.int (2), .int (4)]) h_m3 d_m1
    have d_m2 := Dp.new (HO.tup [.int (2), .int (4)]) h_m3 d_m2
    have W := W.ex (Evl.Ex.new (o := HO.tup [.int (2), .int (4)]) h_m3)
    have e := Exb.ex e (Evl.Ex.new (o := HO.tup [.int (2), .int (4)]) h_m3)
    refine ⟨sz5 (by simp), fun m4 h_m4 => ?_⟩
    have d_m4 := Dp.tupN (K := K) h_m4 ((.cons (.int (1)) .nil) : DpAll K _ ([.int (1)] : List V) ([.int (1)] : List PyData))
    have d_m1 := Dp.new (HO.tup [.int (1)]) h_m4 d_m1
    have d_m2 := Dp.new (HO.tup [.int (1)]) h_m4 d_m2
    have d_m3 := Dp.new (HO.tup [.int (1)]) h_m4 d_m3
    have W := W.ex (Evl.Ex.new (o := HO.tup [.int (1)]) h_m4)
    have e := Exb.ex e (Evl.Ex.new (o := HO.tup [.int (1)]) h_m4)
    refine ⟨sz5 (by simp), fun m5 h_m5 => ?_⟩
    have d_m5 := Dp.lstN (K := K) h_m5 ((.cons (.int (1)) (.cons (.int (1)) .nil)) : DpAll K _ ([.int (1), .int (1)] : List V) ([.int (1), .int (1)] : List PyData))
    have d_m1 := Dp.new (HO.lst [.int (1), .int (1)]) h_m5 d_m1
    have d_m2 := Dp.new (HO.lst [.int (1), .int (1)]) h_m5 d_m2
    have d_m3 := Dp.new (HO.lst [.int (1), .int (1)]) h_m5 d_m3
    have d_m4 := Dp.new (HO.lst [.int (1), .int (1)]) h_m5 d_m4
    have W := W.ex (Evl.Ex.new (o := HO.lst [.int (1), .int (1)]) h_m5)
    have e := Exb.ex e (Evl.Ex.new (o := HO.lst [.int (1), .int (1)]) h_m5)
    refine ⟨sz5 (by simp), fun m6 h_m6 => ?_⟩
    have d_m6 := Dp.tupN (K := K) h_m6 ((.cons (.int (1)) (.cons (.int (0)) .nil)) : DpAll K _ ([.int (1), .int (0)] : List V) ([.int (1), .int (0)] : List PyData))
    have d_m1 := Dp.new (HO.tup [.int (1), .int (0)]) h_m6 d_m1
    have d_m2 := Dp.new (HO.tup [.int (1), .int (0)]) h_m6 d_m2
    have d_m3 := Dp.new (HO.tup [.int (1), .int (0)]) h_m6 d_m3
    have d_m4 := Dp.new (HO.tup [.int (1), .int (0)]) h_m6 d_m4
    have d_m5 := Dp.new (HO.tup [.int (1), .int (0)]) h_m6 d_m5
    have W := W.ex (Evl.Ex.new (o := HO.tup [.int (1), .int (0)]) h_m6)
    have e := Exb.ex e (Evl.Ex.new (o := HO.tup [.int (1), .int (0)]) h_m6)
    refine ⟨sz5 (by simp), fun ol h_ol => ?_⟩
    have d_ol := Dp.lstN (K := K) h_ol ((.cons .non (.cons (.bl true) (.cons (.int (2)) (.cons d_m1 (.cons d_m2 (.cons d_m3 (.cons d_m4 (.cons (.str "1") (.cons d_m5 (.cons d_m6 .nil)))))))))) : DpAll K _ ([.non, .bl true, .int (2), .ref m1, .ref m2, .ref m3, .ref m4, .str "1", .ref m5, .ref m6] : List V) ([.none, .bool true, .int (2), .tuple [.int (0), .int (1)], .tuple [.int (-1), .int (2)], .tuple [.int (2), .int (4)], .tuple [.int (1)], .str "1", .list [.int (1), .int (1)], .tuple [.int (1), .int (0)]] : List PyData))
    have d_m1 := Dp.new (HO.lst [.non, .bl true, .int (2), .ref m1, .ref m2, .ref m3, .ref m4, .str "1", .ref m5, .ref m6]) h_ol d_m1
    have d_m2 := Dp.new (HO.lst [.non, .bl true, .int (2), .ref m1, .ref m2, .ref m3, .ref m4, .str "1", .ref m5, .ref m6]) h_ol d_m2
    have d_m3 := Dp.new (HO.lst [.non, .bl true, .int (2), .ref m1, .ref m2, .ref m3, .ref m4, .str "1", .ref m5, .ref m6]) h_ol d_m3
    have d_m4 := Dp.new (HO.lst [.non, .bl true, .int (2), .ref m1, .ref m2, .ref m3, .ref m4, .str "1", .ref m5, .ref m6]) h_ol d_m4
    have d_m5 := Dp.new (HO.lst [.non, .bl true, .int (2), .ref m1, .ref m2, .ref m3, .ref m4, .str "1", .ref m5, .ref m6]) h_ol d_m5
    have d_m6 := Dp.new (HO.lst [.non, .bl true, .int (2), .ref m1, .ref m2, .ref m3, .ref m4, .str "1", .ref m5, .ref m6]) h_ol d_m6
    have W := W.ex (Evl.Ex.new (o := HO.lst [.non, .bl true, .int (2), .ref m1, .ref m2, .ref m3, .ref m4, .str "1", .ref m5, .ref m6]) h_ol)
    have e := Exb.ex e (Evl.Ex.new (o := HO.lst [.non, .bl true, .int (2), .ref m1, .ref m2, .ref m3, .ref m4, .str "1", .ref m5, .ref m6]) h_ol)
    refine ⟨_, rfl, _, _, rfl, d, _, 10, rfl, rfl, W, by omega, by decide, by decide, fun r r0 r1 H' D' e' => ?_⟩
    have c := W.car e'
    have d_m1 := c.d d_m1
    have d_m2 := c.d d_m2
    have d_m3 := c.d d_m3
    have d_m4 := c.d d_m4
    have d_m5 := c.d d_m5
    have d_m6 := c.d d_m6
    have d_ol := c.d d_ol
    have e := e.trans e'
    have W := D'
    have odd_ok : ∀ d ∈ ([.none, .bool true, .int 2, .tuple [.int 0, .int 1], .tuple [.int (-1), .int 2], .tuple [.int 2, .int 4], .tuple [.int 1], .str "1", .list [.int 1, .int 1], .tuple [.int 1, .int 0]] : List PyData), isPosD d = false ∧ Gd 2 100000 d ∧ d.canLay0 = true := odds_ok
    obtain ⟨_, hl_od, dl_od⟩ := lst_inv d_ol
    obtain ⟨od, odd, hx_od, d_od, hp_od⟩ := pick dl_od r0 (by rw [Rm.DpAll.len dl_od]; exact r1) odd_ok
    refine ⟨ol, _, r, od, rfl, rfl, hl_od, hx_od, ?_⟩
    clear d_m1 d_m2 d_m3 d_m4 d_m5 d_m6 d_ol
    have hL4 := e l _ ld hL3
    have c4 := DS.car e
    have hds4 := c4.ds hds3
    refine ⟨_, rfl, _, rfl, _, _, rfl, .inl ⟨_, SqL.of hL4, rfl⟩, _, _, rfl, d, _, _, rfl, rfl, W, by omega, by omega, by omega, fun at2 a0 a1 H5 D5 e5 => ?_⟩
    have hL5 := e5 l _ ld hL4
    have c5 := W.car e5
    have hds5 := c5.ds hds4
    have d_od := c5.d d_od
    obtain ⟨k, rfl⟩ : ∃ k : Nat, at2 = (k : Int) := ⟨at2.toNat, (Int.toNat_of_nonneg a0).symm⟩
    have hk : k < (x0 :: xs).length := by rw [List.length_cons]; omega
    have t1 : cutV vs none (some (k : Int)) = vs.take k := cut_to
    have t2 : cutV vs (some ((k : Int) + 1)) none = vs.drop (k + 1) := cut_from (k := k + 1)
    have SV : ∀ {G : Hp}, Ex H5 G → SqL K G l vs := fun e => SqL.of (e _ _ hL5)
    have DO : ∀ {G : Hp}, Ex H5 G → Dp K G od odd := fun e => (Car.ex e).d d_od
    have DV : ∀ {G : Hp}, Ex H5 G → DpAll K G vs (numD (x0 :: xs)) := fun e => (Car.ex e).ds hds5
    refine ⟨_, rfl, _, rfl, _, rfl, l, vs, rfl, SV (Evl.Ex.refl _), fun s1 hs1 => ?_⟩
    have y1 := Evl.Ex.new (o := .lst (cutV vs none (some (k : Int)))) hs1
    refine ⟨_, rfl, sz5 (by simp), fun s2 hs2 => ?_⟩
    have y2 := Evl.Ex.new (o := .lst [od]) hs2
    refine ⟨s1, s2, _, _, rfl, rfl, SqL.of (y2 _ _ upd_same), SqL.of upd_same, by rw [t1, List.length_take, sizeLine_eq]; simp; omega, fun s3 hs3 => ?_⟩
    have y3 := Evl.Ex.new (o := .lst (cutV vs none (some (k : Int)) ++ [od])) hs3
    refine ⟨_, rfl, _, rfl, _, _, rfl, rfl, _, rfl, l, vs, rfl, SV ((y1.trans y2).trans y3), fun s4 hs4 => ?_⟩
    have y4 := Evl.Ex.new (o := .lst (cutV vs (some ((k : Int) + 1)) none)) hs4
    refine ⟨s3, s4, _, _, rfl, rfl, SqL.of (y4 _ _ upd_same), SqL.of upd_same, by rw [t1, t2, List.length_append, List.length_take, List.length_drop, sizeLine_eq]; simp; omega, fun bd hbd => ?_⟩
    have y5 := Evl.Ex.new (o := .lst (cutV vs none (some (k : Int)) ++ [od] ++ cutV vs (some ((k : Int) + 1)) none)) hbd
    have y15 := (((y1.trans y2).trans y3).trans y4).trans y5
    have s_bd := SqL_new (K := K) (vs := cutV vs none (some (k : Int)) ++ [od] ++ cutV vs (some ((k : Int) + 1)) none) hbd
    have DB : ∀ {G : Hp}, Ex H5 G → DpAll K G (cutV vs none (some (k : Int)) ++ [od] ++ cutV vs (some ((k : Int) + 1)) none) ((numD (x0 :: xs)).take k ++ [odd] ++ (numD (x0 :: xs)).drop (k + 1)) := fun e => by
      rw [t1, t2]
      exact DpAll.app (DpAll.app (DpAll.take k (DV e)) (.cons (DO e) .nil)) (DpAll.drop (k + 1) (DV e))
    have fbB : fbP (cutV vs none (some (k : Int)) ++ [od] ++ cutV vs (some ((k : Int) + 1)) none) ((numD (x0 :: xs)).take k ++ [odd] ++ (numD (x0 :: xs)).drop (k + 1)) = some od := by
      rw [t1, t2]
      exact fbP_bad lv hk pos hp_od.1
    have lenB : (cutV vs none (some (k : Int)) ++ [od] ++ cutV vs (some ((k : Int) + 1)) none).length ≤ 4 := by
      rw [t1, t2, List.length_append, List.length_append, List.length_take, List.length_drop]
      simp only [List.length_cons, List.length_nil]
      have : k < xs.length + 1 := by simpa using hk
      omega
    have neB : cutV vs none (some (k : Int)) ++ [od] ++ cutV vs (some ((k : Int) + 1)) none ≠ [] := by simp
    have odc : odd.canLay0 = true ∧ odd.depth ≤ 60 := ⟨hp_od.2.2, Nat.le_trans hp_od.2.1.p (by decide)⟩
    have shB : SeqAt.shaped (.list ((numD (x0 :: xs)).take k ++ [odd] ++ (numD (x0 :: xs)).drop (k + 1))) = true := by
      refine shaped_list fun z hz => ?_
      have : z ∈ numD (x0 :: xs) ∨ z = odd := by
        simp only [List.mem_append, List.mem_singleton] at hz
        rcases hz with (hz | hz) | hz
        · exact .inl (List.mem_of_mem_take hz)
        · exact .inr hz
        · exact .inl (List.mem_of_mem_drop hz)
      rcases this with h | rfl
      · obtain ⟨y, _, rfl⟩ := List.mem_map.mp h
        exact num_can y
      · exact odc
    have go1 := Gd.number (m := 100000) (by decide) hp_od.2.1
    have go : Gd 100 16000000 (.list [.list [.str "number", odd], .list [.str "number", odd]]) := (Gd.two go1 go1).mono (by decide) (by decide)
    have two : ∀ {Dw : Addr} {G Hc : Hp}, Ex H5 G → Lcs Dw (fun _ => .lst [.str "number", od]) G 2 Hc → ∃ acc, Hc Dw = some (.lst acc) ∧ DpAll K Hc acc [.list [.str "number", odd], .list [.str "number", odd]] := fun {Dw G Hc} eG hc => by
      obtain ⟨acc, h1, _, h3⟩ := hc.data (K := K) (ds := [.list [.str "number", odd], .list [.str "number", odd]]) fun kk dd p hk hp => by
        have : dd = .list [.str "number", odd] := by
          match kk, hk with
          | 0, h => cases h; rfl
          | 1, h => cases h; rfl
        subst this
        exact .lst (SqL.of hp) (.cons (.str _) (.cons (DO (eG.trans hc.choose_spec.2.2.2)) .nil))
      exact ⟨acc, h1, h3⟩
    have wy : ∀ {j : Nat}, j < 2 → ((j : Int) = 0 ∨ (j : Int) = 1) := fun h => by omega
    -- each way refuses the bad list
    refine ⟨2, rfl, by decide, by decide, fun Dw hDw => lc_rng (n := 2) (fun _ => .lst [.str "number", od]) (by decide) hDw (fun j Hc R hj ex kk => ?_) (fun Hc hc => ?_)⟩
    · exact ⟨_, rfl, _, rfl, _, _, rfl, j, bd, _, _, rfl, rfl, (Car.ex ex).l s_bd, DB (y15.trans ex), shB, wy hj, .inr ⟨od, fbB, lenB, neB, fun p H' h1 h2 h3 => kk p H' h1 h2 h3⟩⟩
    have eC := y15.trans hc.choose_spec.2.2.2
    obtain ⟨acc, hA1, hA2⟩ := two y15 hc
    refine ⟨_, _, rfl, .lst (SqL.of hA1) hA2, go.s, go.n, go.p, go.l, ?_⟩
    refine ⟨_, rfl, sz5 (by simp), fun i1 hi1 => ⟨sz5 (by simp), fun i2 hi2 => ⟨i2, 2, [.ref i1], rfl, rfl, upd_same, by decide, by decide, by rw [sizeLine_eq]; show 1 * 2 ≤ 16777216; decide, fun i3 hi3 => ?_⟩⟩⟩
    have w1 := Evl.Ex.new (o := .lst [.str "number", od]) hi1
    have w2 := Evl.Ex.new (o := .lst [.ref i1]) hi2
    have w3 := Evl.Ex.new (o := .lst (List.replicate (2 : Int).toNat [V.ref i1]).flatten) hi3
    have k1 := Dp.new (.lst [.ref i1]) hi2 (Dp.lstN (K := K) hi1 (.cons (.str "number") (.cons (DO eC) .nil)))
    have k3 : Dp K _ (.ref i3) (.list [.list [.str "number", odd], .list [.str "number", odd]]) := Dp.lstN (K := K) hi3 (.cons k1 (.cons k1 .nil))
    refine ⟨_, _, rfl, k3, go.s, go.n, go.p, go.l, rfl, _, rfl, iteB (fun c => absurd c (by simp)) (fun _ => ?_)⟩
    have eD := eC.trans ((w1.trans w2).trans w3)
    have shO : SeqAt.shaped (.list [odd, .none]) = true := by
      refine shaped_list fun z hz => ?_
      simp only [List.mem_cons, List.not_mem_nil, or_false] at hz
      rcases hz with rfl | rfl
      · exact odc
      · exact ⟨rfl, Nat.zero_le _⟩
    have fbO : fbP [od, .non] [odd, .none] = some od := by
      show (if isPosD odd = true then _ else some od) = some od
      rw [if_neg (by rw [hp_od.1]; simp)]
    -- and the odd one in front
    refine ⟨2, rfl, by decide, by decide, fun Dv hDv => lc_rng (n := 2) (fun _ => .lst [.str "number", od]) (by decide) hDv (fun j Hd R hj ex kk => ?_) (fun Hd hd2 => ?_)⟩
    · refine ⟨_, rfl, _, rfl, sz5 (by simp), fun q hq' => ?_⟩
      have z1 := Evl.Ex.new (o := .lst [od, .non]) hq'
      exact ⟨_, _, rfl, j, q, _, _, rfl, rfl, SqL.of upd_same, .cons (DO ((eD.trans ex).trans z1)) (.cons .non .nil), shO, wy hj, .inr ⟨od, fbO, by simp, by simp, fun p H' h1 h2 h3 => kk p H' (Evl.fresh_back z1 h1) (z1.trans h2) h3⟩⟩
    have eE := eD.trans hd2.choose_spec.2.2.2
    obtain ⟨acc2, hB1, hB2⟩ := two eD hd2
    refine ⟨_, _, rfl, .lst (SqL.of hB1) hB2, go.s, go.n, go.p, go.l, ?_⟩
    refine ⟨_, rfl, sz5 (by simp), fun i1 hi1 => ⟨sz5 (by simp), fun i2 hi2 => ⟨i2, 2, [.ref i1], rfl, rfl, upd_same, by decide, by decide, by rw [sizeLine_eq]; show 1 * 2 ≤ 16777216; decide, fun i3 hi3 => ?_⟩⟩⟩
    have w1 := Evl.Ex.new (o := .lst [.str "number", od]) hi1
    have w2 := Evl.Ex.new (o := .lst [.ref i1]) hi2
    have w3 := Evl.Ex.new (o := .lst (List.replicate (2 : Int).toNat [V.ref i1]).flatten) hi3
    have k1 := Dp.new (.lst [.ref i1]) hi2 (Dp.lstN (K := K) hi1 (.cons (.str "number") (.cons (DO eE) .nil)))
    have k3 : Dp K _ (.ref i3) (.list [.list [.str "number", odd], .list [.str "number", odd]]) := Dp.lstN (K := K) hi3 (.cons k1 (.cons k1 .nil))
    refine ⟨_, _, rfl, k3, go.s, go.n, go.p, go.l, rfl, _, rfl, iteB (fun c => absurd c (by simp)) (fun _ => ?_)⟩
    have eF := eE.trans ((w1.trans w2).trans w3)
    exact ⟨_, _, _, _, _, _, rfl, (D5.ex eF).mono (by omega)⟩
  · rintro σ H0 ⟨t, w, sh, od, at', bd, rfl, D0⟩
    have sh0 : SeqAt.shaped (.list []) = true := by simp [SeqAt.shaped, PyData.canLay0, PyData.canLayAll0, PyData.depth, PyData.depthAll]
    have hE : PyData.eqv (.list [.list [.str "count", .int 0], .list [.str "count", .int 0]]) (.list [.list [.str "count", .int 0], .list [.str "count", .int 0]]) = true := by simp [PyData.eqv, PyData.eqvAll]
    have hS : SeqAt.shaped (.list [.list [.str "count", .int 0], .list [.str "count", .int 0]]) = true := by simp [SeqAt.shaped, PyData.canLay0, PyData.canLayAll0, PyData.depth, PyData.depthAll] <;> decide +kernel
    refine ⟨2, rfl, by decide, by decide, fun Dw hDw => lc_rng (n := 2) (fun _ => .lst [.str "count", .int 0]) (by decide) hDw (fun j Hc R hj ex kk => ?_) (fun Hc hc => ?_)⟩
    · refine ⟨_, rfl, sz5 (by simp), fun q hq' => ?_⟩
      have z1 := Evl.Ex.new (o := .lst []) hq'
      exact ⟨_, _, rfl, j, q, [], [], rfl, rfl, SqL.of upd_same, .nil, sh0, by omega, .inl ⟨rfl, fun p H' h1 h2 h3 => kk p H' (Evl.fresh_back z1 h1) (z1.trans h2) h3⟩⟩
    obtain ⟨acc, hA1, _, hA2⟩ := hc.data (K := K) (ds := [.list [.str "count", .int 0], .list [.str "count", .int 0]]) fun kk dd p hk hp => by
      have : dd = .list [.str "count", .int 0] := by
        match kk, hk with
        | 0, h => cases h; rfl
        | 1, h => cases h; rfl
      subst this
      exact .lst (SqL.of hp) (.cons (.str _) (.cons (.int 0) .nil))
    refine ⟨sz5 (by simp), fun i1 hi1 => ⟨sz5 (by simp), fun i2 hi2 => ⟨i2, 2, [.ref i1], rfl, rfl, upd_same, by decide, by decide, by rw [sizeLine_eq]; show 1 * 2 ≤ 16777216; decide, fun i3 hi3 => ?_⟩⟩⟩
    have w1 := Evl.Ex.new (o := .lst [.str "count", .int 0]) hi1
    have w2 := Evl.Ex.new (o := .lst [.ref i1]) hi2
    have w3 := Evl.Ex.new (o := .lst (List.replicate (2 : Int).toNat [V.ref i1]).flatten) hi3
    have k1 := Dp.new (.lst [.ref i1]) hi2 (Dp.lstN (K := K) hi1 (.cons (.str "count") (.cons (.int 0) .nil)))
    have k3 : Dp K _ (.ref i3) (.list [.list [.str "count", .int 0], .list [.str "count", .int 0]]) := Dp.lstN (K := K) hi3 (.cons k1 (.cons k1 .nil))
    refine ⟨_, _, .lst (SqL.of (((w1.trans w2).trans w3) _ _ hA1)) ((Car.ex ((w1.trans w2).trans w3)).ds hA2), k3, hS, hS, ?_⟩
    rw [hE]
    exact hq _
theorem ok_law (T : Txt P K mg D) : CallG P w K mg base 8 D.law [] (spLaw K) := by
  obtain ⟨fd, F, B⟩ := fb_law (w := w) (base := base) T
  exact B.pos sp1_len (F.binds (ps := ["script"]) fun _ _ _ _ _ _ us hl => match us, hl with | [_], _ => rfl)
end
theorem cls_some {K : Frag} {C : Addr} (h : hasDictIn K C = true) : ∃ cd, clsIn K C = some cd := by
  unfold hasDictIn at h
  cases e : clsIn K C with
  | none => rw [e] at h; cases h
  | some cd => exact ⟨cd, rfl⟩
theorem cls_isSome {K : Frag} {C : Addr} (h : hasDictIn K C = true) : (clsIn K C).isSome = true := by
  obtain ⟨cd, e⟩ := cls_some h
  rw [e]
  rfl
theorem all_mk {P : Program} {K : Frag} {h : Heap} {mg : Str → Option Value} {fa : Addr} (X : K.In h) (G : h.Ns mainGlobals mg) (hfa : mg "law" = some (.ref fa))
    {A_is_integer : Addr} {od_is_integer an_is_integer : Option Addr} {sl_is_integer : Array (Option Value)} {oc_is_integer kV_is_integer dc_is_integer pm_is_integer cd_is_integer ct_is_integer : Value} {A_common_divisor : Addr} {od_common_divisor an_common_divisor : Option Addr} {sl_common_divisor : Array (Option Value)} {oc_common_divisor kV_common_divisor dc_common_divisor pm_common_divisor cd_common_divisor ct_common_divisor : Value} {A_reduced : Addr} {od_reduced an_reduced : Option Addr} {sl_reduced : Array (Option Value)} {oc_reduced kV_reduced dc_reduced pm_reduced cd_reduced ct_reduced : Value} {A_is_number : Addr} {od_is_number an_is_number : Option Addr} {sl_is_number : Array (Option Value)} {oc_is_number kV_is_number dc_is_number pm_is_number cd_is_number ct_is_number : Value} {A_is_positive : Addr} {od_is_positive an_is_positive : Option Addr} {sl_is_positive : Array (Option Value)} {oc_is_positive kV_is_positive dc_is_positive pm_is_positive cd_is_positive ct_is_positive : Value} {A_check_numbers : Addr} {od_check_numbers an_check_numbers : Option Addr} {sl_check_numbers : Array (Option Value)} {oc_check_numbers kV_check_numbers dc_check_numbers pm_check_numbers cd_check_numbers ct_check_numbers : Value} {A_number : Addr} {od_number an_number : Option Addr} {sl_number : Array (Option Value)} {oc_number kV_number dc_number pm_number cd_number ct_number : Value} {T_number : Addr} {to_number : Value} {td_number : Option Addr} {tn_number : Nat} {ts_number : Array (Option Value)} {tt_number_0 : Tok} {A_times : Addr} {od_times an_times : Option Addr} {sl_times : Array (Option Value)} {oc_times kV_times dc_times pm_times cd_times ct_times : Value} {A_over : Addr} {od_over an_over : Option Addr} {sl_over : Array (Option Value)} {oc_over kV_over dc_over pm_over cd_over ct_over : Value} {A_multiply : Addr} {od_multiply an_multiply : Option Addr} {sl_multiply : Array (Option Value)} {oc_multiply kV_multiply dc_multiply pm_multiply cd_multiply ct_multiply : Value} {A_divide : Addr} {od_divide an_divide : Option Addr} {sl_divide : Array (Option Value)} {oc_divide kV_divide dc_divide pm_divide cd_divide ct_divide : Value} {A_check_positive : Addr} {od_check_positive an_check_positive : Option Addr} {sl_check_positive : Array (Option Value)} {oc_check_positive kV_check_positive dc_check_positive pm_check_positive cd_check_positive ct_check_positive : Value} {A_measure_of : Addr} {od_measure_of an_measure_of : Option Addr} {sl_measure_of : Array (Option Value)} {oc_measure_of kV_measure_of dc_measure_of pm_measure_of cd_measure_of ct_measure_of : Value} {A_greatest_measure : Addr} {od_greatest_measure an_greatest_measure : Option Addr} {sl_greatest_measure : Array (Option Value)} {oc_greatest_measure kV_greatest_measure dc_greatest_measure pm_greatest_measure cd_greatest_measure ct_greatest_measure : Value} {A_least_multiple : Addr} {od_least_multiple an_least_multiple : Option Addr} {sl_least_multiple : Array (Option Value)} {oc_least_multiple kV_least_multiple dc_least_multiple pm_least_multiple cd_least_multiple ct_least_multiple : Value} {A__law_begin : Addr} {od__law_begin an__law_begin : Option Addr} {sl__law_begin : Array (Option Value)} {oc__law_begin kV__law_begin dc__law_begin pm__law_begin cd__law_begin ct__law_begin : Value} {A__law_mixed : Addr} {od__law_mixed an__law_mixed : Option Addr} {sl__law_mixed : Array (Option Value)} {oc__law_mixed kV__law_mixed dc__law_mixed pm__law_mixed cd__law_mixed ct__law_mixed : Value} {A__law_next : Addr} {od__law_next an__law_next : Option Addr} {sl__law_next : Array (Option Value)} {oc__law_next kV__law_next dc__law_next pm__law_next cd__law_next ct__law_next : Value} {A__law_divisor : Addr} {od__law_divisor an__law_divisor : Option Addr} {sl__law_divisor : Array (Option Value)} {oc__law_divisor kV__law_divisor dc__law_divisor pm__law_divisor cd__law_divisor ct__law_divisor : Value} {A__law_positive : Addr} {od__law_positive an__law_positive : Option Addr} {sl__law_positive : Array (Option Value)} {oc__law_positive kV__law_positive dc__law_positive pm__law_positive cd__law_positive ct__law_positive : Value} {A__law_some : Addr} {od__law_some an__law_some : Option Addr} {sl__law_some : Array (Option Value)} {oc__law_some kV__law_some dc__law_some pm__law_some cd__law_some ct__law_some : Value} {A__law_measure : Addr} {od__law_measure an__law_measure : Option Addr} {sl__law_measure : Array (Option Value)} {oc__law_measure kV__law_measure dc__law_measure pm__law_measure cd__law_measure ct__law_measure : Value} {A__law_multiple : Addr} {od__law_multiple an__law_multiple : Option Addr} {sl__law_multiple : Array (Option Value)} {oc__law_multiple kV__law_multiple dc__law_multiple pm__law_multiple cd__law_multiple ct__law_multiple : Value} {A__law_are_coprime : Addr} {od__law_are_coprime an__law_are_coprime : Option Addr} {sl__law_are_coprime : Array (Option Value)} {oc__law_are_coprime kV__law_are_coprime dc__law_are_coprime pm__law_are_coprime cd__law_are_coprime ct__law_are_coprime : Value} {A__law_right : Addr} {od__law_right an__law_right : Option Addr} {sl__law_right : Array (Option Value)} {oc__law_right kV__law_right dc__law_right pm__law_right cd__law_right ct__law_right : Value} {A__law_word : Addr} {od__law_word an__law_word : Option Addr} {sl__law_word : Array (Option Value)} {oc__law_word kV__law_word dc__law_word pm__law_word cd__law_word ct__law_word : Value} {A_law : Addr} {od_law an_law : Option Addr} {sl_law : Array (Option Value)} {oc_law kV_law dc_law pm_law cd_law ct_law : Value} {A_InvalidCount : Addr} {fI_InvalidCount : Addr} {cc_InvalidCount : Addr} {cda_InvalidCount : Addr} {xoc_InvalidCount : Value} {xdV_InvalidCount : Value} {xkV_InvalidCount : Value} {xdoc_InvalidCount : Value} {xpm_InvalidCount : Value} {xct_InvalidCount : Value} {xcl_InvalidCount : Value} {xccl_InvalidCount : Value} {xod_InvalidCount : Option Addr} {xan_InvalidCount : Option Addr} {xcld_InvalidCount : Option Addr} {xcdd_InvalidCount : Option Addr} {xosl_InvalidCount : Array (Option Value)} {xcsl_InvalidCount : Array (Option Value)} {xccs_InvalidCount : Array (Option Value)} {xqual_InvalidCount : Str} {xmsg_InvalidCount : Str} {xfile_InvalidCount : Str} {xpar_InvalidCount : Arguments} {xsc_InvalidCount : Scope} {xkk_InvalidCount : Nat} {xtf_InvalidCount : Tok} {xvs_InvalidCount : Array Value} {xp0_InvalidCount xp1_InvalidCount xp2_InvalidCount xp3_InvalidCount xp4_InvalidCount xp5_InvalidCount xp6_InvalidCount xp7_InvalidCount xp8_InvalidCount xp9_InvalidCount : Pos} {A_InvalidNumber : Addr} {fI_InvalidNumber : Addr} {cc_InvalidNumber : Addr} {cda_InvalidNumber : Addr} {xoc_InvalidNumber : Value} {xdV_InvalidNumber : Value} {xkV_InvalidNumber : Value} {xdoc_InvalidNumber : Value} {xpm_InvalidNumber : Value} {xct_InvalidNumber : Value} {xcl_InvalidNumber : Value} {xccl_InvalidNumber : Value} {xod_InvalidNumber : Option Addr} {xan_InvalidNumber : Option Addr} {xcld_InvalidNumber : Option Addr} {xcdd_InvalidNumber : Option Addr} {xosl_InvalidNumber : Array (Option Value)} {xcsl_InvalidNumber : Array (Option Value)} {xccs_InvalidNumber : Array (Option Value)} {xqual_InvalidNumber : Str} {xmsg_InvalidNumber : Str} {xfile_InvalidNumber : Str} {xpar_InvalidNumber : Arguments} {xsc_InvalidNumber : Scope} {xkk_InvalidNumber : Nat} {xtf_InvalidNumber : Tok} {xvs_InvalidNumber : Array Value} {xp0_InvalidNumber xp1_InvalidNumber xp2_InvalidNumber xp3_InvalidNumber xp4_InvalidNumber xp5_InvalidNumber xp6_InvalidNumber xp7_InvalidNumber xp8_InvalidNumber xp9_InvalidNumber : Pos} {A_MissingError : Addr} {A_PaceError : Addr} {A_StateError : Addr} {A_ZERO : Addr} {zo_ZERO : Option Addr} {zn_ZERO : Nat} {zs_ZERO : Array (Option Value)} {zt_ZERO zu_ZERO : Tok}
    (a_is_integer : nsIn K mainGlobals "is_integer" = some (some (.ref A_is_integer)))
    (l_is_integer : K.lookup A_is_integer = some ⟨oc_is_integer, od_is_integer, .func (fnOf "is_integer" "is_integer" (defArgs s_is_integer) (defBody s_is_integer) (defScope s_is_integer) .none kV_is_integer dc_is_integer pm_is_integer an_is_integer cd_is_integer ct_is_integer), sl_is_integer⟩)
    (c_is_integer : codeIn K cd_is_integer "is_integer" = true)
    (k_is_integer : keepIn K (.ref A_is_integer) = true)
    (a_common_divisor : nsIn K mainGlobals "common_divisor" = some (some (.ref A_common_divisor)))
    (l_common_divisor : K.lookup A_common_divisor = some ⟨oc_common_divisor, od_common_divisor, .func (fnOf "common_divisor" "common_divisor" (defArgs s_common_divisor) (defBody s_common_divisor) (defScope s_common_divisor) .none kV_common_divisor dc_common_divisor pm_common_divisor an_common_divisor cd_common_divisor ct_common_divisor), sl_common_divisor⟩)
    (c_common_divisor : codeIn K cd_common_divisor "common_divisor" = true)
    (k_common_divisor : keepIn K (.ref A_common_divisor) = true)
    (a_reduced : nsIn K mainGlobals "reduced" = some (some (.ref A_reduced)))
    (l_reduced : K.lookup A_reduced = some ⟨oc_reduced, od_reduced, .func (fnOf "reduced" "reduced" (defArgs s_reduced) (defBody s_reduced) (defScope s_reduced) .none kV_reduced dc_reduced pm_reduced an_reduced cd_reduced ct_reduced), sl_reduced⟩)
    (c_reduced : codeIn K cd_reduced "reduced" = true)
    (k_reduced : keepIn K (.ref A_reduced) = true)
    (a_is_number : nsIn K mainGlobals "is_number" = some (some (.ref A_is_number)))
    (l_is_number : K.lookup A_is_number = some ⟨oc_is_number, od_is_number, .func (fnOf "is_number" "is_number" (defArgs s_is_number) (defBody s_is_number) (defScope s_is_number) .none kV_is_number dc_is_number pm_is_number an_is_number cd_is_number ct_is_number), sl_is_number⟩)
    (c_is_number : codeIn K cd_is_number "is_number" = true)
    (k_is_number : keepIn K (.ref A_is_number) = true)
    (a_is_positive : nsIn K mainGlobals "is_positive" = some (some (.ref A_is_positive)))
    (l_is_positive : K.lookup A_is_positive = some ⟨oc_is_positive, od_is_positive, .func (fnOf "is_positive" "is_positive" (defArgs s_is_positive) (defBody s_is_positive) (defScope s_is_positive) .none kV_is_positive dc_is_positive pm_is_positive an_is_positive cd_is_positive ct_is_positive), sl_is_positive⟩)
    (c_is_positive : codeIn K cd_is_positive "is_positive" = true)
    (k_is_positive : keepIn K (.ref A_is_positive) = true)
    (a_check_numbers : nsIn K mainGlobals "check_numbers" = some (some (.ref A_check_numbers)))
    (l_check_numbers : K.lookup A_check_numbers = some ⟨oc_check_numbers, od_check_numbers, .func (fnOf "check_numbers" "check_numbers" (defArgs s_check_numbers) (defBody s_check_numbers) (defScope s_check_numbers) .none kV_check_numbers dc_check_numbers pm_check_numbers an_check_numbers cd_check_numbers ct_check_numbers), sl_check_numbers⟩)
    (c_check_numbers : codeIn K cd_check_numbers "check_numbers" = true)
    (k_check_numbers : keepIn K (.ref A_check_numbers) = true)
    (a_number : nsIn K mainGlobals "number" = some (some (.ref A_number)))
    (l_number : K.lookup A_number = some ⟨oc_number, od_number, .func (fnOf "number" "number" (defArgs s_number) (defBody s_number) (defScope s_number) (.ref T_number) kV_number dc_number pm_number an_number cd_number ct_number), sl_number⟩)
    (c_number : codeIn K cd_number "number" = true)
    (k_number : keepIn K (.ref A_number) = true)
    (d_number : K.lookup T_number = some ⟨to_number, td_number, .seq #[.int 1 tt_number_0] tn_number, ts_number⟩)
    (a_times : nsIn K mainGlobals "times" = some (some (.ref A_times)))
    (l_times : K.lookup A_times = some ⟨oc_times, od_times, .func (fnOf "times" "times" (defArgs s_times) (defBody s_times) (defScope s_times) .none kV_times dc_times pm_times an_times cd_times ct_times), sl_times⟩)
    (c_times : codeIn K cd_times "times" = true)
    (k_times : keepIn K (.ref A_times) = true)
    (a_over : nsIn K mainGlobals "over" = some (some (.ref A_over)))
    (l_over : K.lookup A_over = some ⟨oc_over, od_over, .func (fnOf "over" "over" (defArgs s_over) (defBody s_over) (defScope s_over) .none kV_over dc_over pm_over an_over cd_over ct_over), sl_over⟩)
    (c_over : codeIn K cd_over "over" = true)
    (k_over : keepIn K (.ref A_over) = true)
    (a_multiply : nsIn K mainGlobals "multiply" = some (some (.ref A_multiply)))
    (l_multiply : K.lookup A_multiply = some ⟨oc_multiply, od_multiply, .func (fnOf "multiply" "multiply" (defArgs s_multiply) (defBody s_multiply) (defScope s_multiply) .none kV_multiply dc_multiply pm_multiply an_multiply cd_multiply ct_multiply), sl_multiply⟩)
    (c_multiply : codeIn K cd_multiply "multiply" = true)
    (k_multiply : keepIn K (.ref A_multiply) = true)
    (a_divide : nsIn K mainGlobals "divide" = some (some (.ref A_divide)))
    (l_divide : K.lookup A_divide = some ⟨oc_divide, od_divide, .func (fnOf "divide" "divide" (defArgs s_divide) (defBody s_divide) (defScope s_divide) .none kV_divide dc_divide pm_divide an_divide cd_divide ct_divide), sl_divide⟩)
    (c_divide : codeIn K cd_divide "divide" = true)
    (k_divide : keepIn K (.ref A_divide) = true)
    (a_check_positive : nsIn K mainGlobals "check_positive" = some (some (.ref A_check_positive)))
    (l_check_positive : K.lookup A_check_positive = some ⟨oc_check_positive, od_check_positive, .func (fnOf "check_positive" "check_positive" (defArgs s_check_positive) (defBody s_check_positive) (defScope s_check_positive) .none kV_check_positive dc_check_positive pm_check_positive an_check_positive cd_check_positive ct_check_positive), sl_check_positive⟩)
    (c_check_positive : codeIn K cd_check_positive "check_positive" = true)
    (k_check_positive : keepIn K (.ref A_check_positive) = true)
    (a_measure_of : nsIn K mainGlobals "measure_of" = some (some (.ref A_measure_of)))
    (l_measure_of : K.lookup A_measure_of = some ⟨oc_measure_of, od_measure_of, .func (fnOf "measure_of" "measure_of" (defArgs s_measure_of) (defBody s_measure_of) (defScope s_measure_of) .none kV_measure_of dc_measure_of pm_measure_of an_measure_of cd_measure_of ct_measure_of), sl_measure_of⟩)
    (c_measure_of : codeIn K cd_measure_of "measure_of" = true)
    (k_measure_of : keepIn K (.ref A_measure_of) = true)
    (a_greatest_measure : nsIn K mainGlobals "greatest_measure" = some (some (.ref A_greatest_measure)))
    (l_greatest_measure : K.lookup A_greatest_measure = some ⟨oc_greatest_measure, od_greatest_measure, .func (fnOf "greatest_measure" "greatest_measure" (defArgs s_greatest_measure) (defBody s_greatest_measure) (defScope s_greatest_measure) .none kV_greatest_measure dc_greatest_measure pm_greatest_measure an_greatest_measure cd_greatest_measure ct_greatest_measure), sl_greatest_measure⟩)
    (c_greatest_measure : codeIn K cd_greatest_measure "greatest_measure" = true)
    (k_greatest_measure : keepIn K (.ref A_greatest_measure) = true)
    (a_least_multiple : nsIn K mainGlobals "least_multiple" = some (some (.ref A_least_multiple)))
    (l_least_multiple : K.lookup A_least_multiple = some ⟨oc_least_multiple, od_least_multiple, .func (fnOf "least_multiple" "least_multiple" (defArgs s_least_multiple) (defBody s_least_multiple) (defScope s_least_multiple) .none kV_least_multiple dc_least_multiple pm_least_multiple an_least_multiple cd_least_multiple ct_least_multiple), sl_least_multiple⟩)
    (c_least_multiple : codeIn K cd_least_multiple "least_multiple" = true)
    (k_least_multiple : keepIn K (.ref A_least_multiple) = true)
    (a__law_begin : nsIn K mainGlobals "_law_begin" = some (some (.ref A__law_begin)))
    (l__law_begin : K.lookup A__law_begin = some ⟨oc__law_begin, od__law_begin, .func (fnOf "_law_begin" "_law_begin" (defArgs s__law_begin) (defBody s__law_begin) (defScope s__law_begin) .none kV__law_begin dc__law_begin pm__law_begin an__law_begin cd__law_begin ct__law_begin), sl__law_begin⟩)
    (c__law_begin : codeIn K cd__law_begin "_law_begin" = true)
    (k__law_begin : keepIn K (.ref A__law_begin) = true)
    (a__law_mixed : nsIn K mainGlobals "_law_mixed" = some (some (.ref A__law_mixed)))
    (l__law_mixed : K.lookup A__law_mixed = some ⟨oc__law_mixed, od__law_mixed, .func (fnOf "_law_mixed" "_law_mixed" (defArgs s__law_mixed) (defBody s__law_mixed) (defScope s__law_mixed) .none kV__law_mixed dc__law_mixed pm__law_mixed an__law_mixed cd__law_mixed ct__law_mixed), sl__law_mixed⟩)
    (c__law_mixed : codeIn K cd__law_mixed "_law_mixed" = true)
    (k__law_mixed : keepIn K (.ref A__law_mixed) = true)
    (a__law_next : nsIn K mainGlobals "_law_next" = some (some (.ref A__law_next)))
    (l__law_next : K.lookup A__law_next = some ⟨oc__law_next, od__law_next, .func (fnOf "_law_next" "_law_next" (defArgs s__law_next) (defBody s__law_next) (defScope s__law_next) .none kV__law_next dc__law_next pm__law_next an__law_next cd__law_next ct__law_next), sl__law_next⟩)
    (c__law_next : codeIn K cd__law_next "_law_next" = true)
    (k__law_next : keepIn K (.ref A__law_next) = true)
    (a__law_divisor : nsIn K mainGlobals "_law_divisor" = some (some (.ref A__law_divisor)))
    (l__law_divisor : K.lookup A__law_divisor = some ⟨oc__law_divisor, od__law_divisor, .func (fnOf "_law_divisor" "_law_divisor" (defArgs s__law_divisor) (defBody s__law_divisor) (defScope s__law_divisor) .none kV__law_divisor dc__law_divisor pm__law_divisor an__law_divisor cd__law_divisor ct__law_divisor), sl__law_divisor⟩)
    (c__law_divisor : codeIn K cd__law_divisor "_law_divisor" = true)
    (k__law_divisor : keepIn K (.ref A__law_divisor) = true)
    (a__law_positive : nsIn K mainGlobals "_law_positive" = some (some (.ref A__law_positive)))
    (l__law_positive : K.lookup A__law_positive = some ⟨oc__law_positive, od__law_positive, .func (fnOf "_law_positive" "_law_positive" (defArgs s__law_positive) (defBody s__law_positive) (defScope s__law_positive) .none kV__law_positive dc__law_positive pm__law_positive an__law_positive cd__law_positive ct__law_positive), sl__law_positive⟩)
    (c__law_positive : codeIn K cd__law_positive "_law_positive" = true)
    (k__law_positive : keepIn K (.ref A__law_positive) = true)
    (a__law_some : nsIn K mainGlobals "_law_some" = some (some (.ref A__law_some)))
    (l__law_some : K.lookup A__law_some = some ⟨oc__law_some, od__law_some, .func (fnOf "_law_some" "_law_some" (defArgs s__law_some) (defBody s__law_some) (defScope s__law_some) .none kV__law_some dc__law_some pm__law_some an__law_some cd__law_some ct__law_some), sl__law_some⟩)
    (c__law_some : codeIn K cd__law_some "_law_some" = true)
    (k__law_some : keepIn K (.ref A__law_some) = true)
    (a__law_measure : nsIn K mainGlobals "_law_measure" = some (some (.ref A__law_measure)))
    (l__law_measure : K.lookup A__law_measure = some ⟨oc__law_measure, od__law_measure, .func (fnOf "_law_measure" "_law_measure" (defArgs s__law_measure) (defBody s__law_measure) (defScope s__law_measure) .none kV__law_measure dc__law_measure pm__law_measure an__law_measure cd__law_measure ct__law_measure), sl__law_measure⟩)
    (c__law_measure : codeIn K cd__law_measure "_law_measure" = true)
    (k__law_measure : keepIn K (.ref A__law_measure) = true)
    (a__law_multiple : nsIn K mainGlobals "_law_multiple" = some (some (.ref A__law_multiple)))
    (l__law_multiple : K.lookup A__law_multiple = some ⟨oc__law_multiple, od__law_multiple, .func (fnOf "_law_multiple" "_law_multiple" (defArgs s__law_multiple) (defBody s__law_multiple) (defScope s__law_multiple) .none kV__law_multiple dc__law_multiple pm__law_multiple an__law_multiple cd__law_multiple ct__law_multiple), sl__law_multiple⟩)
    (c__law_multiple : codeIn K cd__law_multiple "_law_multiple" = true)
    (k__law_multiple : keepIn K (.ref A__law_multiple) = true)
    (a__law_are_coprime : nsIn K mainGlobals "_law_are_coprime" = some (some (.ref A__law_are_coprime)))
    (l__law_are_coprime : K.lookup A__law_are_coprime = some ⟨oc__law_are_coprime, od__law_are_coprime, .func (fnOf "_law_are_coprime" "_law_are_coprime" (defArgs s__law_are_coprime) (defBody s__law_are_coprime) (defScope s__law_are_coprime) .none kV__law_are_coprime dc__law_are_coprime pm__law_are_coprime an__law_are_coprime cd__law_are_coprime ct__law_are_coprime), sl__law_are_coprime⟩)
    (c__law_are_coprime : codeIn K cd__law_are_coprime "_law_are_coprime" = true)
    (k__law_are_coprime : keepIn K (.ref A__law_are_coprime) = true)
    (a__law_right : nsIn K mainGlobals "_law_right" = some (some (.ref A__law_right)))
    (l__law_right : K.lookup A__law_right = some ⟨oc__law_right, od__law_right, .func (fnOf "_law_right" "_law_right" (defArgs s__law_right) (defBody s__law_right) (defScope s__law_right) .none kV__law_right dc__law_right pm__law_right an__law_right cd__law_right ct__law_right), sl__law_right⟩)
    (c__law_right : codeIn K cd__law_right "_law_right" = true)
    (k__law_right : keepIn K (.ref A__law_right) = true)
    (a__law_word : nsIn K mainGlobals "_law_word" = some (some (.ref A__law_word)))
    (l__law_word : K.lookup A__law_word = some ⟨oc__law_word, od__law_word, .func (fnOf "_law_word" "_law_word" (defArgs s__law_word) (defBody s__law_word) (defScope s__law_word) .none kV__law_word dc__law_word pm__law_word an__law_word cd__law_word ct__law_word), sl__law_word⟩)
    (c__law_word : codeIn K cd__law_word "_law_word" = true)
    (k__law_word : keepIn K (.ref A__law_word) = true)
    (a_law : nsIn K mainGlobals "law" = some (some (.ref A_law)))
    (l_law : K.lookup A_law = some ⟨oc_law, od_law, .func (fnOf "law" "law" (defArgs s_law) (defBody s_law) (defScope s_law) .none kV_law dc_law pm_law an_law cd_law ct_law), sl_law⟩)
    (c_law : codeIn K cd_law "law" = true)
    (k_law : keepIn K (.ref A_law) = true)
    (n_abs : nsIn K mainGlobals "abs" = some none)
    (n_bool : nsIn K mainGlobals "bool" = some none)
    (n_int : nsIn K mainGlobals "int" = some none)
    (n_isinstance : nsIn K mainGlobals "isinstance" = some none)
    (n_len : nsIn K mainGlobals "len" = some none)
    (n_min : nsIn K mainGlobals "min" = some none)
    (n_range : nsIn K mainGlobals "range" = some none)
    (n_repr : nsIn K mainGlobals "repr" = some none)
    (n_tuple : nsIn K mainGlobals "tuple" = some none)
    (n_super : nsIn K mainGlobals "super" = some none)
    (h_op : nsIn K cStatics "thirdparty.any" = some none)
    (a_InvalidCount : nsIn K mainGlobals "InvalidCount" = some (some (.ref A_InvalidCount)))
    (k_InvalidCount : keepIn K (.ref A_InvalidCount) = true)
    (ei_InvalidCount : excInitIn K A_InvalidCount [.type "ValueError", .type "Exception", .type "BaseException", .type "object"] "ValueError.__new__" = true)
    (eo_InvalidCount : excOver K A_InvalidCount [.type "ValueError", .type "Exception", .type "BaseException", .type "object"] = true)
    (fi_InvalidCount : findIn K (.ref A_InvalidCount) "__init__" = some (some (.ref fI_InvalidCount)))
    (if_InvalidCount : isFn K (.ref fI_InvalidCount) = true)
    (lf_InvalidCount : K.lookup fI_InvalidCount = some ⟨xoc_InvalidCount, xod_InvalidCount, .func (ksFn "__init__" xqual_InvalidCount xpar_InvalidCount (xBody xmsg_InvalidCount "count" xp0_InvalidCount xp1_InvalidCount xp2_InvalidCount xp3_InvalidCount xp4_InvalidCount xp5_InvalidCount xp6_InvalidCount xp7_InvalidCount xp8_InvalidCount xp9_InvalidCount xkk_InvalidCount) xsc_InvalidCount xdV_InvalidCount xkV_InvalidCount xdoc_InvalidCount xpm_InvalidCount xan_InvalidCount (.ref cda_InvalidCount) xct_InvalidCount cc_InvalidCount), xosl_InvalidCount⟩)
    (co_InvalidCount : codeIn K (.ref cda_InvalidCount) xqual_InvalidCount = true)
    (lc_InvalidCount : K.lookup cc_InvalidCount = some ⟨xcl_InvalidCount, xcld_InvalidCount, .cell (some (.ref A_InvalidCount)), xcsl_InvalidCount⟩)
    (ld_InvalidCount : K.lookup cda_InvalidCount = some ⟨xccl_InvalidCount, xcdd_InvalidCount, .fields xvs_InvalidCount, xccs_InvalidCount⟩)
    (lv_InvalidCount : xvs_InvalidCount[2]? = some (.str xfile_InvalidCount xtf_InvalidCount))
    (le_InvalidCount : (P.main.file == xfile_InvalidCount) = true)
    (lh_InvalidCount : (xpar_InvalidCount.posonlyargs ++ xpar_InvalidCount.args).head?.map (·.arg) = some ("self" : Str))
    (b1_InvalidCount : ∀ (s : Shared) (a b : Value), BindsTo s (ksFn "__init__" xqual_InvalidCount xpar_InvalidCount (xBody xmsg_InvalidCount "count" xp0_InvalidCount xp1_InvalidCount xp2_InvalidCount xp3_InvalidCount xp4_InvalidCount xp5_InvalidCount xp6_InvalidCount xp7_InvalidCount xp8_InvalidCount xp9_InvalidCount xkk_InvalidCount) xsc_InvalidCount xdV_InvalidCount xkV_InvalidCount xdoc_InvalidCount xpm_InvalidCount xan_InvalidCount (.ref cda_InvalidCount) xct_InvalidCount cc_InvalidCount) ⟨[a, b], []⟩ [("self", a), ("count", b)])
    (b2_InvalidCount : ∀ (s : Shared) (a b : Value), BindsTo s (ksFn "__init__" xqual_InvalidCount xpar_InvalidCount (xBody xmsg_InvalidCount "count" xp0_InvalidCount xp1_InvalidCount xp2_InvalidCount xp3_InvalidCount xp4_InvalidCount xp5_InvalidCount xp6_InvalidCount xp7_InvalidCount xp8_InvalidCount xp9_InvalidCount xkk_InvalidCount) xsc_InvalidCount xdV_InvalidCount xkV_InvalidCount xdoc_InvalidCount xpm_InvalidCount xan_InvalidCount (.ref cda_InvalidCount) xct_InvalidCount cc_InvalidCount) ⟨[a], [("count", b)]⟩ [("self", a), ("count", b)])
    (s0_InvalidCount : xsc_InvalidCount.names.lookup ("super" : Str) = some .globalImplicit)
    (s1_InvalidCount : xsc_InvalidCount.names.lookup ("__class__" : Str) = some .free)
    (s2_InvalidCount : xsc_InvalidCount.names.lookup ("self" : Str) = some .local)
    (s3_InvalidCount : xsc_InvalidCount.names.lookup ("count" : Str) = some .local)
    (s4_InvalidCount : ∀ x ∈ xsc_InvalidCount.names, x.2 ≠ .cell)
    (s5_InvalidCount : xsc_InvalidCount.isCoroutine = false)
    (s6_InvalidCount : xsc_InvalidCount.isGenerator = false)
    (s7_InvalidCount : xsc_InvalidCount.kind = .function)
    (ev_InvalidCount : ∀ L : Addr, ∃ pl : Sem Bool, eval (.Call (.Attribute (.Call (.Name "super" xp0_InvalidCount) [] [] xp1_InvalidCount) "__init__" xp2_InvalidCount) [.Constant (.str xmsg_InvalidCount) xkk_InvalidCount xp3_InvalidCount] [] xp4_InvalidCount) (ksEnv xqual_InvalidCount xsc_InvalidCount L fI_InvalidCount (.ref cda_InvalidCount) cc_InvalidCount) = (do let ov ← attributeBase (.Call (.Name "super" xp0_InvalidCount) [] [] xp1_InvalidCount) "__init__" (ksEnv xqual_InvalidCount xsc_InvalidCount L fI_InvalidCount (.ref cda_InvalidCount) cc_InvalidCount) (eval (.Call (.Name "super" xp0_InvalidCount) [] [] xp1_InvalidCount) (ksEnv xqual_InvalidCount xsc_InvalidCount L fI_InvalidCount (.ref cda_InvalidCount) cc_InvalidCount)); standAt xp2_InvalidCount.atName; let (g, first) ← holding [ov] (getMethod ov "__init__" pl); callWith xp4_InvalidCount g first (backTo xp4_InvalidCount (starEach [.Constant (.str xmsg_InvalidCount) xkk_InvalidCount xp3_InvalidCount] (ksEnv xqual_InvalidCount xsc_InvalidCount L fI_InvalidCount (.ref cda_InvalidCount) cc_InvalidCount))) []))
    (su_InvalidCount : ks_superIn K A_InvalidCount A_InvalidCount "__init__" = some (some (.builtin "ValueError.__init__")))
    (sB_InvalidCount : subIn K (.ref A_InvalidCount) (.type "ValueError") = some true)
    (sC_InvalidCount : subIn K (.ref A_InvalidCount) (.ref A_InvalidCount) = some true)
    (sa_InvalidCount : findIn K (.ref A_InvalidCount) "__setattr__" = some (some (.builtin "object.__setattr__")))
    (tk_InvalidCount : takerIn K A_InvalidCount "count" = some none)
    (hd_InvalidCount : hasDictIn K A_InvalidCount = true)
    (ex_InvalidCount : subIn K (.ref A_InvalidCount) (.type "BaseException") = some true)
    (ty_InvalidCount : typeIn K (.ref A_InvalidCount) = some (.type "type"))
    (ga_InvalidCount : findIn K (.ref A_InvalidCount) "__getattribute__" = some (some (.builtin "BaseException.__getattribute__")))
    (gg_InvalidCount : findIn K (.ref A_InvalidCount) "__getattr__" = some none)
    (ha_InvalidCount : findIn K (.ref A_InvalidCount) "__class__" = some (some (.builtin "object.__class__")))
    (hn_InvalidCount : specialIn K (.builtin "object.__class__") "__get__" = some (some (.builtin "getset_descriptor.__get__")))
    (ht_InvalidCount : takesIn K (.builtin "object.__class__") = some true)
    (hm_InvalidCount : mroIn K A_InvalidCount (.type "object") = some true)
    (hf_InvalidCount : findIn K (.ref A_InvalidCount) "count" = some none)
    (a_InvalidNumber : nsIn K mainGlobals "InvalidNumber" = some (some (.ref A_InvalidNumber)))
    (k_InvalidNumber : keepIn K (.ref A_InvalidNumber) = true)
    (ei_InvalidNumber : excInitIn K A_InvalidNumber [.type "ValueError", .type "Exception", .type "BaseException", .type "object"] "ValueError.__new__" = true)
    (eo_InvalidNumber : excOver K A_InvalidNumber [.type "ValueError", .type "Exception", .type "BaseException", .type "object"] = true)
    (fi_InvalidNumber : findIn K (.ref A_InvalidNumber) "__init__" = some (some (.ref fI_InvalidNumber)))
    (if_InvalidNumber : isFn K (.ref fI_InvalidNumber) = true)
    (lf_InvalidNumber : K.lookup fI_InvalidNumber = some ⟨xoc_InvalidNumber, xod_InvalidNumber, .func (ksFn "__init__" xqual_InvalidNumber xpar_InvalidNumber (xBody xmsg_InvalidNumber "thing" xp0_InvalidNumber xp1_InvalidNumber xp2_InvalidNumber xp3_InvalidNumber xp4_InvalidNumber xp5_InvalidNumber xp6_InvalidNumber xp7_InvalidNumber xp8_InvalidNumber xp9_InvalidNumber xkk_InvalidNumber) xsc_InvalidNumber xdV_InvalidNumber xkV_InvalidNumber xdoc_InvalidNumber xpm_InvalidNumber xan_InvalidNumber (.ref cda_InvalidNumber) xct_InvalidNumber cc_InvalidNumber), xosl_InvalidNumber⟩)
    (co_InvalidNumber : codeIn K (.ref cda_InvalidNumber) xqual_InvalidNumber = true)
    (lc_InvalidNumber : K.lookup cc_InvalidNumber = some ⟨xcl_InvalidNumber, xcld_InvalidNumber, .cell (some (.ref A_InvalidNumber)), xcsl_InvalidNumber⟩)
    (ld_InvalidNumber : K.lookup cda_InvalidNumber = some ⟨xccl_InvalidNumber, xcdd_InvalidNumber, .fields xvs_InvalidNumber, xccs_InvalidNumber⟩)
    (lv_InvalidNumber : xvs_InvalidNumber[2]? = some (.str xfile_InvalidNumber xtf_InvalidNumber))
    (le_InvalidNumber : (P.main.file == xfile_InvalidNumber) = true)
    (lh_InvalidNumber : (xpar_InvalidNumber.posonlyargs ++ xpar_InvalidNumber.args).head?.map (·.arg) = some ("self" : Str))
    (b1_InvalidNumber : ∀ (s : Shared) (a b : Value), BindsTo s (ksFn "__init__" xqual_InvalidNumber xpar_InvalidNumber (xBody xmsg_InvalidNumber "thing" xp0_InvalidNumber xp1_InvalidNumber xp2_InvalidNumber xp3_InvalidNumber xp4_InvalidNumber xp5_InvalidNumber xp6_InvalidNumber xp7_InvalidNumber xp8_InvalidNumber xp9_InvalidNumber xkk_InvalidNumber) xsc_InvalidNumber xdV_InvalidNumber xkV_InvalidNumber xdoc_InvalidNumber xpm_InvalidNumber xan_InvalidNumber (.ref cda_InvalidNumber) xct_InvalidNumber cc_InvalidNumber) ⟨[a, b], []⟩ [("self", a), ("thing", b)])
    (b2_InvalidNumber : ∀ (s : Shared) (a b : Value), BindsTo s (ksFn "__init__" xqual_InvalidNumber xpar_InvalidNumber (xBody xmsg_InvalidNumber "thing" xp0_InvalidNumber xp1_InvalidNumber xp2_InvalidNumber xp3_InvalidNumber xp4_InvalidNumber xp5_InvalidNumber xp6_InvalidNumber xp7_InvalidNumber xp8_InvalidNumber xp9_InvalidNumber xkk_InvalidNumber) xsc_InvalidNumber xdV_InvalidNumber xkV_InvalidNumber xdoc_InvalidNumber xpm_InvalidNumber xan_InvalidNumber (.ref cda_InvalidNumber) xct_InvalidNumber cc_InvalidNumber) ⟨[a], [("thing", b)]⟩ [("self", a), ("thing", b)])
    (s0_InvalidNumber : xsc_InvalidNumber.names.lookup ("super" : Str) = some .globalImplicit)
    (s1_InvalidNumber : xsc_InvalidNumber.names.lookup ("__class__" : Str) = some .free)
    (s2_InvalidNumber : xsc_InvalidNumber.names.lookup ("self" : Str) = some .local)
    (s3_InvalidNumber : xsc_InvalidNumber.names.lookup ("thing" : Str) = some .local)
    (s4_InvalidNumber : ∀ x ∈ xsc_InvalidNumber.names, x.2 ≠ .cell)
    (s5_InvalidNumber : xsc_InvalidNumber.isCoroutine = false)
    (s6_InvalidNumber : xsc_InvalidNumber.isGenerator = false)
    (s7_InvalidNumber : xsc_InvalidNumber.kind = .function)
    (ev_InvalidNumber : ∀ L : Addr, ∃ pl : Sem Bool, eval (.Call (.Attribute (.Call (.Name "super" xp0_InvalidNumber) [] [] xp1_InvalidNumber) "__init__" xp2_InvalidNumber) [.Constant (.str xmsg_InvalidNumber) xkk_InvalidNumber xp3_InvalidNumber] [] xp4_InvalidNumber) (ksEnv xqual_InvalidNumber xsc_InvalidNumber L fI_InvalidNumber (.ref cda_InvalidNumber) cc_InvalidNumber) = (do let ov ← attributeBase (.Call (.Name "super" xp0_InvalidNumber) [] [] xp1_InvalidNumber) "__init__" (ksEnv xqual_InvalidNumber xsc_InvalidNumber L fI_InvalidNumber (.ref cda_InvalidNumber) cc_InvalidNumber) (eval (.Call (.Name "super" xp0_InvalidNumber) [] [] xp1_InvalidNumber) (ksEnv xqual_InvalidNumber xsc_InvalidNumber L fI_InvalidNumber (.ref cda_InvalidNumber) cc_InvalidNumber)); standAt xp2_InvalidNumber.atName; let (g, first) ← holding [ov] (getMethod ov "__init__" pl); callWith xp4_InvalidNumber g first (backTo xp4_InvalidNumber (starEach [.Constant (.str xmsg_InvalidNumber) xkk_InvalidNumber xp3_InvalidNumber] (ksEnv xqual_InvalidNumber xsc_InvalidNumber L fI_InvalidNumber (.ref cda_InvalidNumber) cc_InvalidNumber))) []))
    (su_InvalidNumber : ks_superIn K A_InvalidNumber A_InvalidNumber "__init__" = some (some (.builtin "ValueError.__init__")))
    (sB_InvalidNumber : subIn K (.ref A_InvalidNumber) (.type "ValueError") = some true)
    (sC_InvalidNumber : subIn K (.ref A_InvalidNumber) (.ref A_InvalidNumber) = some true)
    (sa_InvalidNumber : findIn K (.ref A_InvalidNumber) "__setattr__" = some (some (.builtin "object.__setattr__")))
    (tk_InvalidNumber : takerIn K A_InvalidNumber "thing" = some none)
    (hd_InvalidNumber : hasDictIn K A_InvalidNumber = true)
    (ex_InvalidNumber : subIn K (.ref A_InvalidNumber) (.type "BaseException") = some true)
    (ty_InvalidNumber : typeIn K (.ref A_InvalidNumber) = some (.type "type"))
    (ga_InvalidNumber : findIn K (.ref A_InvalidNumber) "__getattribute__" = some (some (.builtin "BaseException.__getattribute__")))
    (gg_InvalidNumber : findIn K (.ref A_InvalidNumber) "__getattr__" = some none)
    (ha_InvalidNumber : findIn K (.ref A_InvalidNumber) "__class__" = some (some (.builtin "object.__class__")))
    (hn_InvalidNumber : specialIn K (.builtin "object.__class__") "__get__" = some (some (.builtin "getset_descriptor.__get__")))
    (ht_InvalidNumber : takesIn K (.builtin "object.__class__") = some true)
    (hm_InvalidNumber : mroIn K A_InvalidNumber (.type "object") = some true)
    (hf_InvalidNumber : findIn K (.ref A_InvalidNumber) "thing" = some none)
    (a_MissingError : nsIn K mainGlobals "MissingError" = some (some (.ref A_MissingError)))
    (a_PaceError : nsIn K mainGlobals "PaceError" = some (some (.ref A_PaceError)))
    (a_StateError : nsIn K mainGlobals "StateError" = some (some (.ref A_StateError)))
    (h_top : (P.main.scope.names.lookup ("super" : Str)).isSome = false)
    (a_ZERO : nsIn K mainGlobals "ZERO" = some (some (.ref A_ZERO)))
    (l_ZERO : K.lookup A_ZERO = some ⟨.type "tuple", zo_ZERO, .seq #[.int 0 zt_ZERO, .int 1 zu_ZERO] zn_ZERO, zs_ZERO⟩)
    (e_InvalidNumber : exmAny K (.ref A_InvalidNumber) [.ref A_PaceError, .ref A_StateError, .ref A_MissingError] = some true)
    (e_InvalidCount : exmAny K (.ref A_InvalidCount) [.ref A_PaceError, .ref A_StateError, .ref A_MissingError] = some true)
    (i_nn : kitOne K (.ref A_InvalidNumber) (.ref A_InvalidNumber) = some true)
    (i_cc : kitOne K (.ref A_InvalidCount) (.ref A_InvalidCount) = some true)
    (i_nc : kitOne K (.ref A_InvalidNumber) (.ref A_InvalidCount) = some false) : ∃ D : Ad, Txt P K mg D ∧ D.law = fa := by
  have e := hfa.symm.trans (mg_of X G a_law)
  cases e
  exact ⟨⟨A_is_integer, A_common_divisor, A_reduced, A_is_number, A_is_positive, A_check_numbers, A_number, A_times, A_over, A_multiply, A_divide, A_check_positive, A_measure_of, A_greatest_measure, A_least_multiple, A__law_begin, A__law_mixed, A__law_next, A__law_divisor, A__law_positive, A__law_some, A__law_measure, A__law_multiple, A__law_are_coprime, A__law_right, A__law_word, fa, A_InvalidCount, A_InvalidNumber, A_MissingError, A_PaceError, A_StateError, A_ZERO⟩, {
    f_is_integer := ⟨_, fun_mk (st := s_is_integer) l_is_integer c_is_integer k_is_integer⟩,
    g_is_integer := mg_of X G a_is_integer,
    k_is_integer := k_is_integer,
    f_common_divisor := ⟨_, fun_mk (st := s_common_divisor) l_common_divisor c_common_divisor k_common_divisor⟩,
    g_common_divisor := mg_of X G a_common_divisor,
    k_common_divisor := k_common_divisor,
    f_reduced := ⟨_, fun_mk (st := s_reduced) l_reduced c_reduced k_reduced⟩,
    g_reduced := mg_of X G a_reduced,
    k_reduced := k_reduced,
    f_is_number := ⟨_, fun_mk (st := s_is_number) l_is_number c_is_number k_is_number⟩,
    g_is_number := mg_of X G a_is_number,
    k_is_number := k_is_number,
    f_is_positive := ⟨_, fun_mk (st := s_is_positive) l_is_positive c_is_positive k_is_positive⟩,
    g_is_positive := mg_of X G a_is_positive,
    k_is_positive := k_is_positive,
    f_check_numbers := ⟨_, fun_mk (st := s_check_numbers) l_check_numbers c_check_numbers k_check_numbers⟩,
    g_check_numbers := mg_of X G a_check_numbers,
    k_check_numbers := k_check_numbers,
    f_number := ⟨_, ⟨⟨_, _, _, _, _, _, _, _, _, _, rfl, l_number, c_number, .inr ⟨by simp, _, _, [.int 1 tt_number_0], _, rfl, d_number, rfl, (.cons (⟨_, rfl⟩) .nil)⟩, .inl rfl⟩, k_number⟩⟩,
    g_number := mg_of X G a_number,
    k_number := k_number,
    f_times := ⟨_, fun_mk (st := s_times) l_times c_times k_times⟩,
    g_times := mg_of X G a_times,
    k_times := k_times,
    f_over := ⟨_, fun_mk (st := s_over) l_over c_over k_over⟩,
    g_over := mg_of X G a_over,
    k_over := k_over,
    f_multiply := ⟨_, fun_mk (st := s_multiply) l_multiply c_multiply k_multiply⟩,
    g_multiply := mg_of X G a_multiply,
    k_multiply := k_multiply,
    f_divide := ⟨_, fun_mk (st := s_divide) l_divide c_divide k_divide⟩,
    g_divide := mg_of X G a_divide,
    k_divide := k_divide,
    f_check_positive := ⟨_, fun_mk (st := s_check_positive) l_check_positive c_check_positive k_check_positive⟩,
    g_check_positive := mg_of X G a_check_positive,
    k_check_positive := k_check_positive,
    f_measure_of := ⟨_, fun_mk (st := s_measure_of) l_measure_of c_measure_of k_measure_of⟩,
    g_measure_of := mg_of X G a_measure_of,
    k_measure_of := k_measure_of,
    f_greatest_measure := ⟨_, fun_mk (st := s_greatest_measure) l_greatest_measure c_greatest_measure k_greatest_measure⟩,
    g_greatest_measure := mg_of X G a_greatest_measure,
    k_greatest_measure := k_greatest_measure,
    f_least_multiple := ⟨_, fun_mk (st := s_least_multiple) l_least_multiple c_least_multiple k_least_multiple⟩,
    g_least_multiple := mg_of X G a_least_multiple,
    k_least_multiple := k_least_multiple,
    f__law_begin := ⟨_, fun_mk (st := s__law_begin) l__law_begin c__law_begin k__law_begin⟩,
    g__law_begin := mg_of X G a__law_begin,
    k__law_begin := k__law_begin,
    f__law_mixed := ⟨_, fun_mk (st := s__law_mixed) l__law_mixed c__law_mixed k__law_mixed⟩,
    g__law_mixed := mg_of X G a__law_mixed,
    k__law_mixed := k__law_mixed,
    f__law_next := ⟨_, fun_mk (st := s__law_next) l__law_next c__law_next k__law_next⟩,
    g__law_next := mg_of X G a__law_next,
    k__law_next := k__law_next,
    f__law_divisor := ⟨_, fun_mk (st := s__law_divisor) l__law_divisor c__law_divisor k__law_divisor⟩,
    g__law_divisor := mg_of X G a__law_divisor,
    k__law_divisor := k__law_divisor,
    f__law_positive := ⟨_, fun_mk (st := s__law_positive) l__law_positive c__law_positive k__law_positive⟩,
    g__law_positive := mg_of X G a__law_positive,
    k__law_positive := k__law_positive,
    f__law_some := ⟨_, fun_mk (st := s__law_some) l__law_some c__law_some k__law_some⟩,
    g__law_some := mg_of X G a__law_some,
    k__law_some := k__law_some,
    f__law_measure := ⟨_, fun_mk (st := s__law_measure) l__law_measure c__law_measure k__law_measure⟩,
    g__law_measure := mg_of X G a__law_measure,
    k__law_measure := k__law_measure,
    f__law_multiple := ⟨_, fun_mk (st := s__law_multiple) l__law_multiple c__law_multiple k__law_multiple⟩,
    g__law_multiple := mg_of X G a__law_multiple,
    k__law_multiple := k__law_multiple,
    f__law_are_coprime := ⟨_, fun_mk (st := s__law_are_coprime) l__law_are_coprime c__law_are_coprime k__law_are_coprime⟩,
    g__law_are_coprime := mg_of X G a__law_are_coprime,
    k__law_are_coprime := k__law_are_coprime,
    f__law_right := ⟨_, fun_mk (st := s__law_right) l__law_right c__law_right k__law_right⟩,
    g__law_right := mg_of X G a__law_right,
    k__law_right := k__law_right,
    f__law_word := ⟨_, fun_mk (st := s__law_word) l__law_word c__law_word k__law_word⟩,
    g__law_word := mg_of X G a__law_word,
    k__law_word := k__law_word,
    f_law := ⟨_, fun_mk (st := s_law) l_law c_law k_law⟩,
    g_law := mg_of X G a_law,
    k_law := k_law,
    n_abs := mg_none_of X G n_abs,
    n_bool := mg_none_of X G n_bool,
    n_int := mg_none_of X G n_int,
    n_isinstance := mg_none_of X G n_isinstance,
    n_len := mg_none_of X G n_len,
    n_min := mg_none_of X G n_min,
    n_range := mg_none_of X G n_range,
    n_repr := mg_none_of X G n_repr,
    n_tuple := mg_none_of X G n_tuple,
    g_InvalidCount := mg_of X G a_InvalidCount,
    k_InvalidCount := k_InvalidCount,
    x_InvalidCount := ⟨PySem.F.excBase_ValueError, kxs_ValueError, PySem.F.store_ValueError, ei_InvalidCount, eo_InvalidCount, ⟨_, _, _, _, _, _, _, _, _, _, _, _, _, _, _, _, _, _, _, _, _, _, _, _, _, _, _, _, _, _, _, _, _, _, _, _, fi_InvalidCount, if_InvalidCount, lf_InvalidCount, co_InvalidCount, lc_InvalidCount, ld_InvalidCount, lv_InvalidCount, le_InvalidCount, lh_InvalidCount, b1_InvalidCount, b2_InvalidCount, s0_InvalidCount, s1_InvalidCount, s2_InvalidCount, s3_InvalidCount, s4_InvalidCount, s5_InvalidCount, s6_InvalidCount, s7_InvalidCount, ev_InvalidCount⟩, by decide, by decide, by decide, mg_none_of X G n_super, cls_some hd_InvalidCount, su_InvalidCount, sB_InvalidCount, sC_InvalidCount, h_op, sa_InvalidCount, tk_InvalidCount, hd_InvalidCount, h_top⟩,
    z_InvalidCount := fun Y e => raises_own (by rw [e]; exact ex_InvalidCount) (by rw [e]; exact ty_InvalidCount),
    t_InvalidCount := ⟨cls_isSome hd_InvalidCount, ga_InvalidCount, gg_InvalidCount, ex_InvalidCount, hd_InvalidCount, ha_InvalidCount, hn_InvalidCount, ht_InvalidCount, hm_InvalidCount⟩,
    h_InvalidCount := hf_InvalidCount,
    g_InvalidNumber := mg_of X G a_InvalidNumber,
    k_InvalidNumber := k_InvalidNumber,
    x_InvalidNumber := ⟨PySem.F.excBase_ValueError, kxs_ValueError, PySem.F.store_ValueError, ei_InvalidNumber, eo_InvalidNumber, ⟨_, _, _, _, _, _, _, _, _, _, _, _, _, _, _, _, _, _, _, _, _, _, _, _, _, _, _, _, _, _, _, _, _, _, _, _, fi_InvalidNumber, if_InvalidNumber, lf_InvalidNumber, co_InvalidNumber, lc_InvalidNumber, ld_InvalidNumber, lv_InvalidNumber, le_InvalidNumber, lh_InvalidNumber, b1_InvalidNumber, b2_InvalidNumber, s0_InvalidNumber, s1_InvalidNumber, s2_InvalidNumber, s3_InvalidNumber, s4_InvalidNumber, s5_InvalidNumber, s6_InvalidNumber, s7_InvalidNumber, ev_InvalidNumber⟩, by decide, by decide, by decide, mg_none_of X G n_super, cls_some hd_InvalidNumber, su_InvalidNumber, sB_InvalidNumber, sC_InvalidNumber, h_op, sa_InvalidNumber, tk_InvalidNumber, hd_InvalidNumber, h_top⟩,
    z_InvalidNumber := fun Y e => raises_own (by rw [e]; exact ex_InvalidNumber) (by rw [e]; exact ty_InvalidNumber),
    t_InvalidNumber := ⟨cls_isSome hd_InvalidNumber, ga_InvalidNumber, gg_InvalidNumber, ex_InvalidNumber, hd_InvalidNumber, ha_InvalidNumber, hn_InvalidNumber, ht_InvalidNumber, hm_InvalidNumber⟩,
    h_InvalidNumber := hf_InvalidNumber,
    g_MissingError := mg_of X G a_MissingError,
    g_PaceError := mg_of X G a_PaceError,
    g_StateError := mg_of X G a_StateError,
    g_ZERO := ⟨_, mg_of X G a_ZERO, rfl⟩,
    q_ZERO := fun H => ⟨_, rfl, .inr ⟨_, _, _, l_ZERO, rfl, rfl, by rw [sizeLine_eq]; simp, .cons ⟨_, rfl⟩ (.cons ⟨_, rfl⟩ .nil)⟩⟩,
    e_InvalidNumber := e_InvalidNumber,
    e_InvalidCount := e_InvalidCount,
    i_nn := i_nn,
    i_cc := i_cc,
    i_nc := i_nc }, rfl⟩
theorem walk {l : OpenLaw} {q : Program} {loose : List Str} {XP : (Str → Option Value) → Heap → Prop} {YP : World → Heap → Prop} {d : DefRec} {K : Params → Frag} (hn : l.most = some 63) (hdf : d.params.defaults = [])
    (hY : ∀ (w : World) (h : Heap), YP w h → (K w.params).In h)
    (F : ∀ (w : World) (mg : Str → Option Value) (fa : Addr) (h : Heap), (K w.params).In h → h.Ns mainGlobals mg → mg d.name = some (.ref fa) → ∃ D : Ad, Txt l.prog (K w.params) mg D ∧ D.law = fa) :
    WalkO q loose XP YP l.row.toRowW d [] (fun f vs => PySem.call f vs) :=
  Rm.walk_ofG (n := 63) (k := 8) (sp := fun w => spLaw (K w.params)) hn (by decide) hdf ⟨rfl, by decide, by decide⟩ hY (fun w mg fa h KX G hmg base _ _ => by
    obtain ⟨D, T, e⟩ := F w mg fa h KX G hmg
    rw [← e]
    exact ok_law T) fun w H a ns hl _ hO hS => ⟨_, rfl, a, ns, rfl, hS, hl, fun _ => rfl⟩
end K4
open PySem PySem.W PyProof.Rows
set_option maxRecDepth 100000 in
set_option maxHeartbeats 0 in
theorem PySem.Challenge.cw_roompace_k04_measures_and_multiples_holds : PySem.Challenge.rw_roompace_k04_measures_and_multiples.Holds := by
  w_on; o_law; k_head; (case hw => w_witness2)
  k_fill
  refine K4.walk (l := PySem.Challenge.rw_roompace_k04_measures_and_multiples) rfl rfl (fun w h Y => kIn_of Y) ?F
  case F =>
    intro w mg fa h KX G hmg
    refine' K4.all_mk KX G hmg ?a_is_integer ?l_is_integer ?c_is_integer ?k_is_integer ?a_common_divisor ?l_common_divisor ?c_common_divisor ?k_common_divisor ?a_reduced ?l_reduced ?c_reduced ?k_reduced ?a_is_number ?l_is_number ?c_is_number ?k_is_number ?a_is_positive ?l_is_positive ?c_is_positive ?k_is_positive ?a_check_numbers ?l_check_numbers ?c_check_numbers ?k_check_numbers ?a_number ?l_number ?c_number ?k_number ?d_number ?a_times ?l_times ?c_times ?k_times ?a_over ?l_over ?c_over ?k_over ?a_multiply ?l_multiply ?c_multiply ?k_multiply ?a_divide ?l_divide ?c_divide ?k_divide ?a_check_positive ?l_check_positive ?c_check_positive ?k_check_positive ?a_measure_of ?l_measure_of ?c_measure_of ?k_measure_of ?a_greatest_measure ?l_greatest_measure ?c_greatest_measure ?k_greatest_measure ?a_least_multiple ?l_least_multiple ?c_least_multiple ?k_least_multiple ?a__law_begin ?l__law_begin ?c__law_begin ?k__law_begin ?a__law_mixed ?l__law_mixed ?c__law_mixed ?k__law_mixed ?a__law_next ?l__law_next ?c__law_next ?k__law_next ?a__law_divisor ?l__law_divisor ?c__law_divisor ?k__law_divisor ?a__law_positive ?l__law_positive ?c__law_positive ?k__law_positive ?a__law_some ?l__law_some ?c__law_some ?k__law_some ?a__law_measure ?l__law_measure ?c__law_measure ?k__law_measure ?a__law_multiple ?l__law_multiple ?c__law_multiple ?k__law_multiple ?a__law_are_coprime ?l__law_are_coprime ?c__law_are_coprime ?k__law_are_coprime ?a__law_right ?l__law_right ?c__law_right ?k__law_right ?a__law_word ?l__law_word ?c__law_word ?k__law_word ?a_law ?l_law ?c_law ?k_law ?n_abs ?n_bool ?n_int ?n_isinstance ?n_len ?n_min ?n_range ?n_repr ?n_tuple ?n_super ?h_op ?a_InvalidCount ?k_InvalidCount ?ei_InvalidCount ?eo_InvalidCount ?fi_InvalidCount ?if_InvalidCount ?lf_InvalidCount ?co_InvalidCount ?lc_InvalidCount ?ld_InvalidCount ?lv_InvalidCount ?le_InvalidCount ?lh_InvalidCount ?b1_InvalidCount ?b2_InvalidCount ?s0_InvalidCount ?s1_InvalidCount ?s2_InvalidCount ?s3_InvalidCount ?s4_InvalidCount ?s5_InvalidCount ?s6_InvalidCount ?s7_InvalidCount ?ev_InvalidCount ?su_InvalidCount ?sB_InvalidCount ?sC_InvalidCount ?sa_InvalidCount ?tk_InvalidCount ?hd_InvalidCount ?ex_InvalidCount ?ty_InvalidCount ?ga_InvalidCount ?gg_InvalidCount ?ha_InvalidCount ?hn_InvalidCount ?ht_InvalidCount ?hm_InvalidCount ?hf_InvalidCount ?a_InvalidNumber ?k_InvalidNumber ?ei_InvalidNumber ?eo_InvalidNumber ?fi_InvalidNumber ?if_InvalidNumber ?lf_InvalidNumber ?co_InvalidNumber ?lc_InvalidNumber ?ld_InvalidNumber ?lv_InvalidNumber ?le_InvalidNumber ?lh_InvalidNumber ?b1_InvalidNumber ?b2_InvalidNumber ?s0_InvalidNumber ?s1_InvalidNumber ?s2_InvalidNumber ?s3_InvalidNumber ?s4_InvalidNumber ?s5_InvalidNumber ?s6_InvalidNumber ?s7_InvalidNumber ?ev_InvalidNumber ?su_InvalidNumber ?sB_InvalidNumber ?sC_InvalidNumber ?sa_InvalidNumber ?tk_InvalidNumber ?hd_InvalidNumber ?ex_InvalidNumber ?ty_InvalidNumber ?ga_InvalidNumber ?gg_InvalidNumber ?ha_InvalidNumber ?hn_InvalidNumber ?ht_InvalidNumber ?hm_InvalidNumber ?hf_InvalidNumber ?a_MissingError ?a_PaceError ?a_StateError ?h_top ?a_ZERO ?l_ZERO ?e_InvalidNumber ?e_InvalidCount ?i_nn ?i_cc ?i_nc
    (case a_is_integer => k_is)
    (case l_is_integer => k_is)
    (case c_is_integer => k_is)
    (case k_is_integer => k_is)
    (case a_common_divisor => k_is)
    (case l_common_divisor => k_is)
    (case c_common_divisor => k_is)
    (case k_common_divisor => k_is)
    (case a_reduced => k_is)
    (case l_reduced => k_is)
    (case c_reduced => k_is)
    (case k_reduced => k_is)
    (case a_is_number => k_is)
    (case l_is_number => k_is)
    (case c_is_number => k_is)
    (case k_is_number => k_is)
    (case a_is_positive => k_is)
    (case l_is_positive => k_is)
    (case c_is_positive => k_is)
    (case k_is_positive => k_is)
    (case a_check_numbers => k_is)
    (case l_check_numbers => k_is)
    (case c_check_numbers => k_is)
    (case k_check_numbers => k_is)
    (case a_number => k_is)
    (case l_number => k_is)
    (case c_number => k_is)
    (case k_number => k_is)
    (case d_number => k_is)
    (case a_times => k_is)
    (case l_times => k_is)
    (case c_times => k_is)
    (case k_times => k_is)
    (case a_over => k_is)
    (case l_over => k_is)
    (case c_over => k_is)
    (case k_over => k_is)
    (case a_multiply => k_is)
    (case l_multiply => k_is)
    (case c_multiply => k_is)
    (case k_multiply => k_is)
    (case a_divide => k_is)
    (case l_divide => k_is)
    (case c_divide => k_is)
    (case k_divide => k_is)
    (case a_check_positive => k_is)
    (case l_check_positive => k_is)
    (case c_check_positive => k_is)
    (case k_check_positive => k_is)
    (case a_measure_of => k_is)
    (case l_measure_of => k_is)
    (case c_measure_of => k_is)
    (case k_measure_of => k_is)
    (case a_greatest_measure => k_is)
    (case l_greatest_measure => k_is)
    (case c_greatest_measure => k_is)
    (case k_greatest_measure => k_is)
    (case a_least_multiple => k_is)
    (case l_least_multiple => k_is)
    (case c_least_multiple => k_is)
    (case k_least_multiple => k_is)
    (case a__law_begin => k_is)
    (case l__law_begin => k_is)
    (case c__law_begin => k_is)
    (case k__law_begin => k_is)
    (case a__law_mixed => k_is)
    (case l__law_mixed => k_is)
    (case c__law_mixed => k_is)
    (case k__law_mixed => k_is)
    (case a__law_next => k_is)
    (case l__law_next => k_is)
    (case c__law_next => k_is)
    (case k__law_next => k_is)
    (case a__law_divisor => k_is)
    (case l__law_divisor => k_is)
    (case c__law_divisor => k_is)
    (case k__law_divisor => k_is)
    (case a__law_positive => k_is)
    (case l__law_positive => k_is)
    (case c__law_positive => k_is)
    (case k__law_positive => k_is)
    (case a__law_some => k_is)
    (case l__law_some => k_is)
    (case c__law_some => k_is)
    (case k__law_some => k_is)
    (case a__law_measure => k_is)
    (case l__law_measure => k_is)
    (case c__law_measure => k_is)
    (case k__law_measure => k_is)
    (case a__law_multiple => k_is)
    (case l__law_multiple => k_is)
    (case c__law_multiple => k_is)
    (case k__law_multiple => k_is)
    (case a__law_are_coprime => k_is)
    (case l__law_are_coprime => k_is)
    (case c__law_are_coprime => k_is)
    (case k__law_are_coprime => k_is)
    (case a__law_right => k_is)
    (case l__law_right => k_is)
    (case c__law_right => k_is)
    (case k__law_right => k_is)
    (case a__law_word => k_is)
    (case l__law_word => k_is)
    (case c__law_word => k_is)
    (case k__law_word => k_is)
    (case a_law => k_is)
    (case l_law => k_is)
    (case c_law => k_is)
    (case k_law => k_is)
    (case n_abs => k_is)
    (case n_bool => k_is)
    (case n_int => k_is)
    (case n_isinstance => k_is)
    (case n_len => k_is)
    (case n_min => k_is)
    (case n_range => k_is)
    (case n_repr => k_is)
    (case n_tuple => k_is)
    (case n_super => k_is)
    (case h_op => k_is)
    (case a_InvalidCount => k_is)
    (case k_InvalidCount => k_is)
    (case ei_InvalidCount => kernel_rfl)
    (case eo_InvalidCount => kernel_rfl)
    (case fi_InvalidCount => k_is)
    (case if_InvalidCount => k_is)
    (case lf_InvalidCount => k_is)
    (case co_InvalidCount => k_is)
    (case lc_InvalidCount => k_is)
    (case ld_InvalidCount => k_is)
    (case lv_InvalidCount => rfl)
    (case le_InvalidCount => first | rfl | decide +kernel)
    (case lh_InvalidCount => rfl)
    (case b1_InvalidCount => exact fun _ _ _ => .of_eq rfl)
    (case b2_InvalidCount => exact fun _ _ _ => .of_eq rfl)
    (case s0_InvalidCount => first | rfl | decide +kernel)
    (case s1_InvalidCount => first | rfl | decide +kernel)
    (case s2_InvalidCount => first | rfl | decide +kernel)
    (case s3_InvalidCount => first | rfl | decide +kernel)
    (case s4_InvalidCount => decide +kernel)
    (case s5_InvalidCount => rfl)
    (case s6_InvalidCount => rfl)
    (case s7_InvalidCount => rfl)
    (case ev_InvalidCount => exact fun _ => ⟨_, rfl⟩)
    (case su_InvalidCount => kernel_rfl)
    (case sB_InvalidCount => k_is)
    (case sC_InvalidCount => k_is)
    (case sa_InvalidCount => k_is)
    (case tk_InvalidCount => k_is)
    (case hd_InvalidCount => k_is)
    (case ex_InvalidCount => k_is)
    (case ty_InvalidCount => k_is)
    (case ga_InvalidCount => k_is)
    (case gg_InvalidCount => k_is)
    (case ha_InvalidCount => k_is)
    (case hn_InvalidCount => k_is)
    (case ht_InvalidCount => k_is)
    (case hm_InvalidCount => k_is)
    (case hf_InvalidCount => k_is)
    (case a_InvalidNumber => k_is)
    (case k_InvalidNumber => k_is)
    (case ei_InvalidNumber => kernel_rfl)
    (case eo_InvalidNumber => kernel_rfl)
    (case fi_InvalidNumber => k_is)
    (case if_InvalidNumber => k_is)
    (case lf_InvalidNumber => k_is)
    (case co_InvalidNumber => k_is)
    (case lc_InvalidNumber => k_is)
    (case ld_InvalidNumber => k_is)
    (case lv_InvalidNumber => rfl)
    (case le_InvalidNumber => first | rfl | decide +kernel)
    (case lh_InvalidNumber => rfl)
    (case b1_InvalidNumber => exact fun _ _ _ => .of_eq rfl)
    (case b2_InvalidNumber => exact fun _ _ _ => .of_eq rfl)
    (case s0_InvalidNumber => first | rfl | decide +kernel)
    (case s1_InvalidNumber => first | rfl | decide +kernel)
    (case s2_InvalidNumber => first | rfl | decide +kernel)
    (case s3_InvalidNumber => first | rfl | decide +kernel)
    (case s4_InvalidNumber => decide +kernel)
    (case s5_InvalidNumber => rfl)
    (case s6_InvalidNumber => rfl)
    (case s7_InvalidNumber => rfl)
    (case ev_InvalidNumber => exact fun _ => ⟨_, rfl⟩)
    (case su_InvalidNumber => kernel_rfl)
    (case sB_InvalidNumber => k_is)
    (case sC_InvalidNumber => k_is)
    (case sa_InvalidNumber => k_is)
    (case tk_InvalidNumber => k_is)
    (case hd_InvalidNumber => k_is)
    (case ex_InvalidNumber => k_is)
    (case ty_InvalidNumber => k_is)
    (case ga_InvalidNumber => k_is)
    (case gg_InvalidNumber => k_is)
    (case ha_InvalidNumber => k_is)
    (case hn_InvalidNumber => k_is)
    (case ht_InvalidNumber => k_is)
    (case hm_InvalidNumber => k_is)
    (case hf_InvalidNumber => k_is)
    (case a_MissingError => k_is)
    (case a_PaceError => k_is)
    (case a_StateError => k_is)
    (case h_top => first | rfl | decide +kernel)
    (case a_ZERO => k_is)
    (case l_ZERO => k_is)
    (case e_InvalidNumber => kernel_rfl)
    (case e_InvalidCount => kernel_rfl)
    (case i_nn => kernel_rfl)
    (case i_cc => kernel_rfl)
    (case i_nc => kernel_rfl)
