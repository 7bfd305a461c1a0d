import PyProof.Rows.All
import Wide.All
import OpenK.AllK
import Wide.FinOn
import KE.KExcSuper
import KE.KExcInit
import KE.KTryMore
import HandS.ForMost
import HandS.ForExc
import HandS.ExcInit
import HandS.ExcIs
import KE.KExcIs
import HandS.IsInst
import HandS.ExcField
import HandS.Star
import HandS.Wide
import HandS.Evl
import HandS.EndBits
import HandS.Defaults
import PyProof.ReprRoads
import HandS.Style
import HandS.FStr
import PySem.Challenge.RW_roompace_k02_numbers_recognized
set_option Elab.async false
set_option linter.all false
set_option maxRecDepth 100000
set_option maxHeartbeats 4000000
/-! Making an exception of an own class whose __init__ says super().__init__(text) and then self.field = argument. -/
namespace Rm
open PySem PySem.W PySem.Calls PyProof.Rows

/-- the two statements of such an __init__ -/
def xBody (msg fld : Str) (p0 p1 p2 p3 p4 p5 p6 p7 p8 p9 : Pos) (k : Nat) : List Stmt :=
  [.Expr (.Call (.Attribute (.Call (.Name "super" p0) [] [] p1) "__init__" p2) [.Constant (.str msg) k p3] [] p4) p5,
   .Assign [.Attribute (.Name "self" p6) fld p7] (.Name fld p8) p9]

/-- what the written part says of such a class -/
structure XCls (prog : Program) (K : Frag) (mg : Str → Option Value) (B newId initId : String) (bmB : List Value) (fld : Str) (C : Addr) : Prop where
  fb : ExcBaseFacts B newId initId bmB
  kf : KxsFacts B initId
  sf : StoreFacts B bmB "object.__setattr__" "object"
  ei : excInitIn K C bmB newId = true
  eo : excOver K C bmB = true
  fn : ∃ (fI cc cda : Addr) (oc : Value) (od : Option Addr) (osl : Array (Option Value)) (qual : Str) (params : Arguments) (scope : Scope) (dV kV doc pm ct : Value) (an : Option Addr) (msg : Str)
      (p0 p1 p2 p3 p4 p5 p6 p7 p8 p9 : Pos) (kk : Nat) (cl : Value) (cld : Option Addr) (csl : Array (Option Value)) (ccl : Value) (cdd : Option Addr) (vs : Array Value) (ccs : Array (Option Value)) (file : Str) (tf : Tok),
    findIn K (.ref C) "__init__" = some (some (.ref fI)) ∧ isFn K (.ref fI) = true ∧
    K.lookup fI = some ⟨oc, od, .func (ksFn "__init__" qual params (xBody msg fld p0 p1 p2 p3 p4 p5 p6 p7 p8 p9 kk) scope dV kV doc pm an (.ref cda) ct cc), osl⟩ ∧
    codeIn K (.ref cda) qual = true ∧
    K.lookup cc = some ⟨cl, cld, .cell (some (.ref C)), csl⟩ ∧
    K.lookup cda = some ⟨ccl, cdd, .fields vs, ccs⟩ ∧ vs[2]? = some (.str file tf) ∧ ((prog.main.file : Str) == file) = true ∧
    (params.posonlyargs ++ params.args).head?.map (·.arg) = some ("self" : Str) ∧
    (∀ (s : Shared) (a b : Value), BindsTo s (ksFn "__init__" qual params (xBody msg fld p0 p1 p2 p3 p4 p5 p6 p7 p8 p9 kk) scope dV kV doc pm an (.ref cda) ct cc) ⟨[a, b], []⟩ [("self", a), (fld, b)]) ∧
    (∀ (s : Shared) (a b : Value), BindsTo s (ksFn "__init__" qual params (xBody msg fld p0 p1 p2 p3 p4 p5 p6 p7 p8 p9 kk) scope dV kV doc pm an (.ref cda) ct cc) ⟨[a], [(fld, b)]⟩ [("self", a), (fld, b)]) ∧
    scope.names.lookup ("super" : Str) = some .globalImplicit ∧ scope.names.lookup ("__class__" : Str) = some .free ∧ scope.names.lookup ("self" : Str) = some .local ∧ scope.names.lookup fld = some .local ∧
    (∀ x ∈ scope.names, x.2 ≠ .cell) ∧ scope.isCoroutine = false ∧ scope.isGenerator = false ∧ scope.kind = .function ∧
    (∀ L : Addr, ∃ pl : Sem Bool, eval (.Call (.Attribute (.Call (.Name "super" p0) [] [] p1) "__init__" p2) [.Constant (.str msg) kk p3] [] p4) (ksEnv qual scope L fI (.ref cda) cc) = (do
      let ov ← attributeBase (.Call (.Name "super" p0) [] [] p1) "__init__" (ksEnv qual scope L fI (.ref cda) cc) (eval (.Call (.Name "super" p0) [] [] p1) (ksEnv qual scope L fI (.ref cda) cc))
      standAt p2.atName
      let (g, first) ← holding [ov] (getMethod ov "__init__" pl)
      callWith p4 g first (backTo p4 (starEach [.Constant (.str msg) kk p3] (ksEnv qual scope L fI (.ref cda) cc))) []))
  fs : ¬ ("self" : Str) = fld
  fd : (fld == ("__debug__" : Str)) = false
  fcd : (fld == ("__classdict__" : Str)) = false
  su : mg "super" = none
  cd : ∃ cd, clsIn K C = some cd
  sup : ks_superIn K C C "__init__" = some (some (.builtin initId))
  sB : subIn K (.ref C) (.type B) = some true
  sC : subIn K (.ref C) (.ref C) = some true
  op : nsIn K cStatics "thirdparty.any" = some none
  sa : findIn K (.ref C) "__setattr__" = some (some (.builtin "object.__setattr__"))
  tk : takerIn K C fld = some none
  hd : hasDictIn K C = true
  top : (prog.main.scope.names.lookup ("super" : Str)).isSome = false
end Rm
namespace Rm
open PySem PySem.W PySem.Calls PyProof.Rows
open Builtin Builtin.ObjectAttr
section
variable {prog : Program} {w : World} {A : Around} {E : Value → Shared → Prop} {R : Result → Shared → Prop} {s : Shared} {K : Frag} {mg mb : Str → Option Value} {B newId initId fieldN : String} {bmB : List Value} {fld : Str} {C : Addr}

/-- self.fld = v on an exception that has no dict yet, any base -/
theorem x_store {x t : Addr} {v : Value} {tk : Tok} (T : XCls prog K mg B newId initId bmB fld C) (X : K.In s.heap) (hx : s.heap.get? x = some (excObj C t none .none))
    (hq : ∀ h' tk' dx, (∀ b o, b ≠ x → s.heap.get? b = some o → h'.get? b = some o) → s.heap.objs.size ≤ dx → dx ≠ x → h'.get? x = some (excObj C t (some dx) .none) →
      h'.Ns1 dx (fun y => if y = fld then some v else none) → R (.ok (.ret .none)) { s with heap := h', toks := tk' }) :
    codeAny (model prog w) A (.call (.builtin "object.__setattr__") ⟨[.ref x, .str fld tk, v], []⟩) R s := by
  have I : InstAt s.heap x (excObj C t none .none) C none := ⟨hx, rfl, rfl, trivial⟩
  have hxs : x ≠ s.heap.objs.size := Nat.ne_of_lt (Heap.lt_size hx)
  obtain ⟨cd, hcd⟩ := T.cd
  have hcls : Looks (model prog w) s.heap (classData C) cd := looks_clsIn X hcd
  have hh : cd.hasDict = true := by
    have := T.hd
    unfold hasDictIn at this
    rw [hcd] at this
    exact this
  refine osa_openX T.sf X I T.eo T.tk fun b => ?_
  obtain ⟨hp, g, d, t0, os⟩ := s
  obtain ⟨nm, bs, mro, ns, qn, hd', sn, sb, ab, col, del⟩ := cd
  dsimp only at hh
  subst hh
  show wpAny _ _ (storeInOwnDict (.ref x) (.ref C) (.str fld tk) fld v b) _ _ _
  unfold storeInOwnDict ownDictForStores
  repeat (first | with_reducible refine HandSPX.store_in_new ?_ ?_ | with_reducible refine wpAny_loadPart_at hx ?_ | with_reducible refine hcls.at ?_ | wp_step)
  · exact ⟨_, #[], _, (Heap.get?_update_ne _ _ _ _ hxs.symm).trans (Heap.get?_push_at rfl rfl), rfl, fun e he => absurd he (by simp), fun _ => rfl⟩
  · intro h' tk' hn' hs
    have hx1 := Heap.get?_push_of_some (h := hp) { cls := .type "dict", data := .dict #[] } hx
    refine hq h' tk' hp.objs.size (fun b o hb ho => ?_) (Nat.le_refl _) hxs.symm ?_ hn'
    · exact (hs.2 b (Nat.ne_of_lt (Heap.lt_size ho))).trans ((Heap.get?_update_ne _ _ _ _ hb).trans (Heap.get?_push_of_some _ ho))
    · exact (hs.2 x hxs).trans (Heap.get?_update_self _ hx1 rfl)
end
end Rm
namespace Rm
open PySem PySem.W PySem.Calls PyProof.Rows
section
variable {prog : Program} {w : World} {A : Around} {E : Value → Shared → Prop} {R : Result → Shared → Prop} {s : Shared} {K : Frag} {mg mb : Str → Option Value} {B newId initId fieldN : String} {bmB : List Value} {fld : Str} {C : Addr}

/-- the globals and the built-ins stand in the heap -/
structure Gnd (K : Frag) (mg : Str → Option Value) (h : Heap) : Prop where
  k : K.In h
  g : h.Ns mainGlobals mg
  b : ∃ mb, h.Ns builtinsNs mb ∧ ∀ x : Str, x ≠ "__name__" → mb x = bootBuiltins x
  l : h.NoLimit
theorem Gnd.keeps {h h' : Heap} (G : Gnd K mg h) (k : ∀ b o, h.get? b = some o → h'.get? b = some o) : Gnd K mg h' := by
  obtain ⟨a, b, ⟨mb, c, d⟩, l⟩ := G
  exact ⟨a.keeps k, b.keeps k, ⟨mb, c.keeps k, d⟩, l.keeps k⟩

theorem x_body {e t L f cc cda : Addr} {q msg : Str} {scope : Scope} {u : Value} {p0 p1 p2 p3 p4 p5 p6 p7 p8 p9 : Pos} {kk : Nat}
    {body : List Stmt} {of oc : Obj} {fd : FuncData} {ar : Arg} {vs : Array Value} {file : Str} {tf : Tok} {m : Str → Option Value}
    (T : XCls prog K mg B newId initId bmB fld C) (G : Gnd K mg s.heap) (he : s.heap.get? e = some (excObj C t none .none)) (heK : K.lookup e = none)
    (hL : s.heap.Ns L m) (m1 : m "self" = some (.ref e)) (m2 : m fld = some u)
    (hf : s.heap.get? f = some of) (hfd : of.data = .func fd) (hp : (fd.params.posonlyargs ++ fd.params.args).head? = some ar) (har : ar.arg = "self")
    (hcc : s.heap.get? cda = some oc) (hoc : oc.data = .fields vs) (hvs : vs[2]? = some (.str file tf)) (hfile : ((prog.main.file : Str) == file) = true)
    (hcell : s.heap.IsCell cc (some (.ref C)))
    (sk1 : scope.names.lookup ("super" : Str) = some .globalImplicit) (sk2 : scope.names.lookup ("__class__" : Str) = some .free) (sk3 : scope.names.lookup ("self" : Str) = some .local) (sk4 : scope.names.lookup fld = some .local)
    (hk : scope.kind = .function) {pl : Sem Bool}
    (hev : eval (.Call (.Attribute (.Call (.Name "super" p0) [] [] p1) "__init__" p2) [.Constant (.str msg) kk p3] [] p4) (ksEnv q scope L f (.ref cda) cc) = (do
      let ov ← attributeBase (.Call (.Name "super" p0) [] [] p1) "__init__" (ksEnv q scope L f (.ref cda) cc) (eval (.Call (.Name "super" p0) [] [] p1) (ksEnv q scope L f (.ref cda) cc))
      standAt p2.atName
      let (g, first) ← holding [ov] (getMethod ov "__init__" pl)
      callWith p4 g first (backTo p4 (starEach [.Constant (.str msg) kk p3] (ksEnv q scope L f (.ref cda) cc))) []))
    (hq : ∀ h' t1 dx tk', (∀ b o, b ≠ e → s.heap.get? b = some o → h'.get? b = some o) → s.heap.objs.size ≤ dx → dx ≠ e → h'.get? e = some (excObj C t1 (some dx) .none) →
      h'.Ns1 dx (fun y => if y = fld then some u else none) → R (.ok (.ret .none)) { s with heap := h', toks := tk' }) :
    _root_.PySem.wpAt (model prog w) A (.func body (ksEnv q scope L f (.ref cda) cc)) (execs (xBody msg fld p0 p1 p2 p3 p4 p5 p6 p7 p8 p9 kk) (ksEnv q scope L f (.ref cda) cc))
      (fun fl s' => R (.ok (.ret (match fl with | .ret v => v | _ => .none))) s') E s := by
  obtain ⟨cd, hcd⟩ := T.cd
  obtain ⟨mb, hmb, hbb⟩ := G.b
  have eL : L ≠ e := fun z => by
    obtain ⟨oL, es, ep, h1, h2, _⟩ := hL
    rw [z, he] at h1
    cases h1
    cases h2
  unfold xBody
  refine ks_wpAt_execs_cons (ks_wpAt_Expr_any (ks_wpAt_MethodCall (ks_wpAt_super_base (env := ksEnv q scope L f (.ref cda) cc) sk1 sk2 (by decide +kernel) rfl hf hfd hp rfl hcc hoc hvs hfile T.top ?_) hev) (by unfold interactive; simp [hk]; done))
  obtain ⟨hh, g, d, t0, os⟩ := s
  obtain ⟨oD, hD1, hD2⟩ : ∃ oD, hh.get? C = some oD ∧ oD.data = .cls cd := by
    unfold clsIn at hcd
    split at hcd
    · rename_i c d cd' sl ho
      cases hcd
      exact ⟨_, G.k _ _ ho, rfl⟩
    · cases hcd
  refine ks_loadName_global hk sk1 (loadGlobal_builtin (env := ksEnv q scope L f (.ref cda) cc) G.g T.su hmb ((hbb _ (by decide +kernel)).trans (by decide +kernel)) ⟨rfl, ?_⟩)
  refine wpAny_loadName_free hk sk2 rfl hcell ?_
  refine wpAny_loadName_local hk (by rw [har]; exact sk3) hL (by rw [har]; exact m1) ?_
  refine ks_wpAny_isType_cls hD1 hD2 ⟨rfl, ?_⟩
  refine ks_wpAny_call_super hD1 hD2 he rfl (fun c z => by cases z) (looks_subIn G.k T.sC) (fun h1 hso k1 => ?_)
  have G1 := G.keeps (h' := h1) k1
  have he1 := k1 _ _ he
  have I1 : InstAt h1 e (excObj C t none .none) C none := ⟨he1, rfl, rfl, trivial⟩
  have hI : Looks (model prog w) h1 (isInstance (.ref e) (.type B)) true := I1.type.andThen (looks_subIn G1.k T.sB)
  have hsp := T.sup
  unfold ks_superIn at hsp
  rw [hcd] at hsp
  refine kxs_getMethod T.kf hso (looks_opaque G1.k T.op) (l₀ := cd.mro) (fun A Q E s k q => wpAny_bind ((looks_clsIn G1.k hcd) A _ E s k (wpAny_pure q))) rfl G1.k hsp hI (fun z => ?_) (by decide +kernel) ?_
  · rw [z, hD1] at he
    cases he
    cases hD2
  -- the method-wrapper stands
  have hmw : (h1.push (kxs_mw initId e)).get? h1.objs.size = some (kxs_mw initId e) := Heap.get?_push_at rfl rfl
  have k2 : ∀ b o, h1.get? b = some o → (h1.push (kxs_mw initId e)).get? b = some o := fun b o z => Heap.get?_push_of_some _ z
  have he2 := k2 _ _ he1
  refine kxs_callWith (i := initId) (x := e) rfl ?_
  have hse : starEach [Expr.Constant (.str msg) kk p3] (ksEnv q scope L f (.ref cda) cc) = (false, eval (.Constant (.str msg) kk p3) (ksEnv q scope L f (.ref cda) cc)) :: starEach [] (ksEnv q scope L f (.ref cda) cc) := by rfl
  rw [hse]
  refine evalArgs_plain ?_
  have goal : ∀ {Q : List Value → Shared → Prop} {s1 : Shared}, (∀ tk, Q [.str msg tk] { s1 with toks := s1.toks + 1 }) → wpAny (model prog w) A (spliced (backTo p4 (starEach [Expr.Constant (.str msg) kk p3] (ksEnv q scope L f (.ref cda) cc)))) Q E s1 := fun {Q s1} h =>
    spliced_more (wpAny_Constant_str (spliced_none (h _)))
  refine goal fun tk => ⟨hmw, ?_⟩
  -- BaseException.__init__ lays the args anew
  obtain ⟨nm, N', qn, bs, bm, hdct, sn, sub, ab, col, dd, k0, k3, k4, k5, k6, hC, hT⟩ := excInit_of G1.k T.ei
  refine wpAny_call (codeAny_of_tree ?_)
  show wpAny _ A.in1 (callAny (.ref h1.objs.size) ⟨[.str msg tk], []⟩) _ _ _
  simp only [callAny]
  refine wpAny_bind (wpAny_load hmw ?_)
  simp only [kxs_mw]
  refine KFB.if_so (by decide) (wpAny_bind (check_bound_init T.fb.toExcCallFacts (k2 _ _ hC) he2 rfl ?_))
  refine wpAny_bind (wpAny_pure (wpAny_pure ⟨plainId_quiet T.fb.init.plain _, codeAny_builtin T.fb.initEntry ?_⟩))
  refine exc_init_tree (cls := .ref C) (t0 := t) (dv := none) (c2 := .none) (c3 := .none) (b4 := .bool false) he2 (by rw [sizeLine_eq]; show 1 ≤ 16777216; decide) (fun h3 k3' he3 _ => ?_)
  have k13 : ∀ b o, b ≠ e → hh.get? b = some o → h3.get? b = some o := fun b o hb z => k3' b o hb (k2 _ _ (k1 _ _ z))
  have X3 : K.In h3 := fun b o z => k13 b o (fun y => by
    rw [y, heK] at z
    cases z) (G.k _ _ z)
  have hL3 : h3.Ns L m := by
    obtain ⟨oL, es, ep, z1, z2⟩ := hL
    exact ⟨oL, es, ep, k13 _ _ eL z1, z2⟩
  -- self.field = field
  refine wpAt_of_wpAny (wpAny_execs_cons (plainObj_wpAny_Assign_Attribute (wpAny_Name (wpAny_loadName_local hk sk4 hL3 m2 ?_) T.fd) rfl))
  refine wpAny_Name (wpAny_loadName_local hk sk3 hL3 m1 ?_) (by decide)
  refine set_plain X3 (ox := excObj C _ none .none) (od := none) ⟨he3, rfl, rfl, trivial⟩ T.sa ?_
  refine x_store T X3 he3 fun h4 tk' dx k4' hdx hde he4 hn4 => ?_
  refine wpAny_execs_nil ?_
  have sz : hh.objs.size ≤ dx := by
    exact Nat.le_trans (Nat.le_of_lt (Heap.lt_size (k3' _ _ (Nat.ne_of_gt (Heap.lt_size he)) (k2 _ _ hso)))) hdx
  exact hq h4 _ dx tk' (fun b o hb z => k4' b o hb (k13 b o hb z)) sz hde he4 hn4

/-- the call of such an __init__: R of the answer None, whatever the tokens -/
theorem x_call {e t fI : Addr} {u : Value} {args : Args} (T : XCls prog K mg B newId initId bmB fld C) (G : Gnd K mg s.heap) (he : s.heap.get? e = some (excObj C t none .none)) (heK : K.lookup e = none) (hroom : A.depth < recursionLimit)
    (hi : findIn K (.ref C) "__init__" = some (some (.ref fI))) (ha : args = ⟨[.ref e, u], []⟩ ∨ args = ⟨[.ref e], [(fld, u)]⟩)
    (hq : ∀ h' t1 dx tk', (∀ b o, b ≠ e → s.heap.get? b = some o → h'.get? b = some o) → s.heap.objs.size ≤ dx → dx ≠ e → h'.get? e = some (excObj C t1 (some dx) .none) →
      h'.Ns1 dx (fun y => if y = fld then some u else none) → R (.ok (.ret .none)) { s with heap := h', toks := tk' }) :
    codeAny (model prog w) A (.call (.ref fI) args) R s := by
  obtain ⟨fI', cc, cda, oc, od, osl, qual, params, scope, dV, kV, doc, pm, ct, an, msg, p0, p1, p2, p3, p4, p5, p6, p7, p8, p9, kk, cl, cld, csl, ccl, cdd, vs, ccs, file, tf, f1, f2, f3, f4, f5, f6, f7, f8, f9, b1, b2, k1, k2, k3, k4, k5, k6, k7, k8, hev⟩ := T.fn
  rw [hi] at f1
  cases f1
  obtain ⟨ar, har, har2⟩ : ∃ ar, (params.posonlyargs ++ params.args).head? = some ar ∧ ar.arg = "self" := by
    cases z : (params.posonlyargs ++ params.args).head? with
    | none => rw [z] at f9; cases f9
    | some ar => rw [z] at f9; exact ⟨ar, rfl, Option.some.inj f9⟩
  have hbind : BindsTo s (ksFn "__init__" qual params (xBody msg fld p0 p1 p2 p3 p4 p5 p6 p7 p8 p9 kk) scope dV kV doc pm an (.ref cda) ct cc) args [("self", .ref e), (fld, u)] := by
    rcases ha with rfl | rfl
    · exact b1 _ _ _
    · exact b2 _ _ _
  refine ks_codeAny_call_defAt (fd := ksFn "__init__" qual params (xBody msg fld p0 p1 p2 p3 p4 p5 p6 p7 p8 p9 kk) scope dV kV doc pm an (.ref cda) ct cc) (body := xBody msg fld p0 p1 p2 p3 p4 p5 p6 p7 p8 p9 kk)
    (binds := [("self", .ref e), (fld, u)]) hroom (G.k _ _ f3) rfl G.l (codeRec_of G.k f4) rfl hbind k5 ?_ (fun h1 hns hk1 => ?_) k6 k7 k8
  · intro x hx
    rcases List.mem_cons.mp hx with rfl | hx
    · exact k3
    · rcases List.mem_cons.mp hx with rfl | hx
      · exact k4
      · cases hx
  · obtain ⟨pl, hpl⟩ := hev s.heap.objs.size
    have G1 := G.keeps (h' := h1) hk1
    have e1 := hk1 _ _ he
    refine x_body (s := { s with heap := h1, toks := s.toks + 2 }) (e := e) (t := t) (L := s.heap.objs.size) (f := fI) (cc := cc) (cda := cda) (u := u) T G1 e1 heK hns ?_ ?_ (G1.k _ _ f3) rfl har har2 (G1.k _ _ f6) rfl f7 f8 ⟨_, G1.k _ _ f5, rfl⟩ k1 k2 k3 k4 k8 hpl (fun h' t1 dx tk' a1 a2 a3 a4 a5 => ?_)
    · have z : (("self" : Str) == fld) = false := beq_false_of_ne T.fs
      show List.lookup ("self" : Str) [(fld, u), ("self", Value.ref e)] = some (Value.ref e)
      rw [List.lookup, z]
      simp [List.lookup]
    · show List.lookup fld [(fld, u), ("self", Value.ref e)] = some u
      simp [List.lookup]
    · refine hq h' t1 dx tk' (fun b o hb z => a1 b o hb (hk1 _ _ z)) (Nat.le_trans ?_ a2) a3 a4 a5
      obtain ⟨oL, es, ep, z1, _⟩ := hns
      exact Nat.le_of_lt (Heap.lt_size z1)
end
end Rm
namespace Rm
open PySem PySem.W PySem.Calls PyProof.Rows PySem.Spec L2
/-- an exception at a, of the class cls, its own dict at d; fr: not raised yet -/
def xV (a : Addr) (cls : Value) (d : Option Addr) (fr : Bool) : HO := .ext fun h => ∃ (o : Obj) (vs : Array Value), h.get? a = some o ∧ Zc cls d o ∧ o.data = .fields vs ∧ (fr = true → vs[1]? = some .none)
theorem xV_ok {P : Program} {w : World} {H : Hp} {h : Heap} {a : Addr} {cls : Value} {d : Option Addr} {fr : Bool} {o : Obj} {vs : Array Value} (e : h.get? a = some o) (z : Zc cls d o) (dd : o.data = .fields vs) (h1 : fr = true → vs[1]? = some .none) : ObjOk P w H h a (xV a cls d fr) :=
  ⟨⟨o, vs, e, z, dd, h1⟩, ⟨o, e⟩, fun _ _ y k => by
    obtain ⟨o', vs', y1, y2⟩ := y
    exact ⟨o', vs', k _ y1, y2⟩⟩
theorem xV_at {P : Program} {w : World} {H : Hp} {h : Heap} {a : Addr} {cls : Value} {d : Option Addr} {fr : Bool} (hok : HOk P w H h) (e : H a = some (xV a cls d fr)) :
    ∃ (o : Obj) (vs : Array Value), h.get? a = some o ∧ Zc cls d o ∧ o.data = .fields vs ∧ (fr = true → vs[1]? = some .none) := (hok a _ e).1
theorem xd_ok {P : Program} {w : World} {H : Hp} {h : Heap} {dx : Addr} {f : Str} {v : V} {u : Value} (r : RelV v u) (hn : h.Ns1 dx (fun y => if y = f then some u else none)) : ObjOk P w H h dx (.xd [(f, v)]) :=
  ⟨_, hn, fun g => by
    by_cases e : g = f
    · subst e
      simp [List.lookup]
      exact r
    · have e' : (g == f) = false := by simpa using e
      simp only [List.lookup, e', if_neg e]
      trivial⟩

section
variable {X : Cx} {B newId initId : String} {bmB : List Value} {fld : Str} {C : Addr} {pins : List (Addr × Obj)} {σ : L2.St} {H : Hp} {s : Shared}
theorem gnd_of (I : Inv X pins σ H s) : Gnd X.K X.mg s.heap := by
  obtain ⟨mb, h1, h2⟩ := I.mod.blt
  exact ⟨I.kIn, I.mod.glob.keeps I.bk, ⟨mb, h1.keeps I.bk, h2⟩, I.nolimit⟩
theorem x_new {u : Value} {Q : Value → Shared → Prop} {E : Value → Shared → Prop} (T : XCls X.prog X.K X.mg B newId initId bmB fld C) (hr : Room 1 X.A) (I : Inv X pins σ H s)
    (hq : ∀ h' a t dx tk', (∀ b o, s.heap.get? b = some o → h'.get? b = some o) → s.heap.objs.size ≤ a → s.heap.objs.size ≤ dx → dx ≠ a → h'.get? a = some (excObj C t (some dx) .none) →
      h'.Ns1 dx (fun y => if y = fld then some u else none) → Q (.ref a) { s with heap := h', toks := tk' }) :
    wpAny (model X.prog X.w) X.A (call (.ref C) [u]) Q E s := by
  obtain ⟨fI, _, _, _, _, _, _, _, _, _, _, _, _, _, _, _, _, _, _, _, _, _, _, _, _, _, _, _, _, _, _, _, _, _, _, _, f1, f2, f3, _⟩ := T.fn
  obtain ⟨nm, N', qn, bs, bm, hdct, sn, sub, ab, col, dd, k0, k3, k4, k5, k6, hC, hT⟩ := excInit_of I.kIn T.ei
  have G := gnd_of I
  obtain ⟨hh, g, d, t0, os⟩ := s
  have kp : ∀ b o, hh.get? b = some o → ((hh.push (kdv_tup [u])).push (HandSPX.excO C hh.objs.size)).get? b = some o := fun b o e => Heap.get?_push_of_some _ (Heap.get?_push_of_some _ e)
  have hget : ((hh.push (kdv_tup [u])).push (HandSPX.excO C hh.objs.size)).get? (hh.objs.size + 1) = some (HandSPX.excO C hh.objs.size) := by heap_get
  have tf : typeIn X.K (.ref fI) = some (.type "function") := by
    unfold isFn at f2
    exact eq_of_beq f2
  refine wpAny_call (HandSPX.call_own T.fb hT hC (looks_findIn I.kIn f1) (fun self => bind_fn I.kIn self tf) (by rw [sizeLine_eq]; show 1 ≤ 16777216; decide) ?_)
  refine x_call (s := ⟨(hh.push (kdv_tup [u])).push (HandSPX.excO C hh.objs.size), g, d, t0, os⟩) (e := hh.objs.size + 1) (t := hh.objs.size) T (G.keeps kp) hget ?_ ?_ f1 (.inl rfl) (fun h' t1 dx tk' a1 a2 a3 a4 a5 => ?_)
  · cases z : X.K.lookup (hh.objs.size + 1) with
    | none => rfl
    | some o => exact absurd (Heap.lt_size (I.kIn _ _ z)) (by show ¬ hh.objs.size + 1 < hh.objs.size; omega)
  · have := hr.dp
    rw [make_depth]
    omega
  · refine ⟨rfl, ?_⟩
    refine hq h' (hh.objs.size + 1) t1 dx tk' (fun b o z => a1 b o (Nat.ne_of_lt (Nat.lt_succ_of_lt (Heap.lt_size z))) (kp b o z)) (Nat.le_succ _) (Nat.le_trans ?_ a2) a3 a4 a5
    exact Nat.le_of_lt (Nat.lt_of_succ_lt (Heap.lt_size hget))

/-- the heap with such an exception is a state of ours -/
theorem x_laid {h' : Heap} {a t dx : Addr} {tk : Nat} {v : V} {u : Value} (I : Inv X pins σ H s) (k : ∀ b o, s.heap.get? b = some o → h'.get? b = some o) (ha : s.heap.objs.size ≤ a) (hd : s.heap.objs.size ≤ dx) (nd : dx ≠ a)
    (he : h'.get? a = some (excObj C t (some dx) .none)) (hn : h'.Ns1 dx (fun y => if y = fld then some u else none)) (r : RelV v u) :
    Inv X pins σ (upd (upd H dx (.xd [(fld, v)])) a (xV a (.ref C) (some dx) true)) { s with heap := h', toks := tk } := by
  have na := I.hok.fresh ha
  have nx := I.hok.fresh hd
  have lt : ∀ {b : Addr} {o : Obj}, s.heap.get? b = some o → b ≠ a ∧ b ≠ dx := fun {b o} z =>
    ⟨Nat.ne_of_lt (Nat.lt_of_lt_of_le (Heap.lt_size z) ha), Nat.ne_of_lt (Nat.lt_of_lt_of_le (Heap.lt_size z) hd)⟩
  have at' : ∀ {b : Addr} {o : HO}, H b = some o → b ≠ a ∧ b ≠ dx := fun {b o} z => ⟨ne_of_none z na, ne_of_none z nx⟩
  have same : ∀ {b : Addr} {o : HO}, H b = some o → upd (upd H dx (.xd [(fld, v)])) a (xV a (.ref C) (some dx) true) b = some o := fun {b o} z => by
    rw [upd_ne (at' z).1, upd_ne (at' z).2]
    exact z
  refine I.un (t' := tk) { keep := fun b o z n _ _ => k b o z, slot := fun b o z n _ _ => ⟨o.slots, k b o z⟩, free := fun b o z n _ => ?_, there := fun b o z _ => ⟨o, k b o z⟩, tups := fun b xs z => same z, frzs := fun b o u z => same z, tbls := fun b ps z => ⟨#[], by rw [same z]; simp⟩ } (fun b o z => ?_)
  · rw [upd_ne (lt z).1, upd_ne (lt z).2]
    exact n
  · by_cases hb : b = a
    · subst hb
      rw [upd_same] at z
      cases z
      exact xV_ok he ⟨rfl, rfl⟩ rfl fun _ => rfl
    · rw [upd_ne hb] at z
      by_cases hb2 : b = dx
      · subst hb2
        rw [upd_same] at z
        cases z
        exact xd_ok r hn
      · rw [upd_ne hb2] at z
        exact (I.hok b o z).stay (fun c u _ y => k c u y) (fun c y => same y) (fun c xs y => same y)
/-- the same, the exception itself left out (it's about to be raised) -/
theorem x_laidR {h' : Heap} {a dx : Addr} {tk : Nat} {v : V} {u : Value} (I : Inv X pins σ H s) (k : ∀ b o, s.heap.get? b = some o → h'.get? b = some o) (ha : s.heap.objs.size ≤ a) (hd : s.heap.objs.size ≤ dx) (nd : dx ≠ a)
    (hn : h'.Ns1 dx (fun y => if y = fld then some u else none)) (r : RelV v u) :
    ∃ G : Heap, (∀ b o, G.get? b = some o → h'.get? b = some o) ∧ G.get? a = none ∧ Inv X pins σ (upd H dx (.xd [(fld, v)])) { s with heap := G, toks := tk } := by
  obtain ⟨G, g1, g2⟩ := restrict h' fun b => decide (b ≠ a)
  have gk : ∀ b, b ≠ a → G.get? b = h'.get? b := fun b hb => g1 b (decide_eq_true hb)
  have ge : G.get? a = none := g2 a (by simp)
  have nx := I.hok.fresh hd
  have lt : ∀ {b : Addr} {o : Obj}, s.heap.get? b = some o → b ≠ a ∧ b ≠ dx := fun {b o} z =>
    ⟨Nat.ne_of_lt (Nat.lt_of_lt_of_le (Heap.lt_size z) ha), Nat.ne_of_lt (Nat.lt_of_lt_of_le (Heap.lt_size z) hd)⟩
  have k' : ∀ b o, s.heap.get? b = some o → G.get? b = some o := fun b o z => (gk b (lt z).1).trans (k b o z)
  have same : ∀ {b : Addr} {o : HO}, H b = some o → upd H dx (.xd [(fld, v)]) b = some o := fun {b o} z => by
    rw [upd_ne (ne_of_none z nx)]
    exact z
  refine ⟨G, fun b o z => ?_, ge, I.un (t' := tk) { keep := fun b o z n _ _ => k' b o z, slot := fun b o z n _ _ => ⟨o.slots, k' b o z⟩, free := fun b o z n _ => ?_, there := fun b o z _ => ⟨o, k' b o z⟩, tups := fun b xs z => same z, frzs := fun b o u z => same z, tbls := fun b ps z => ⟨#[], by rw [same z]; simp⟩ } (fun b o z => ?_)⟩
  · by_cases hb : b = a
    · rw [hb, ge] at z
      cases z
    · exact (gk b hb).symm.trans z
  · rw [upd_ne (lt z).2]
    exact n
  · by_cases hb2 : b = dx
    · subst hb2
      rw [upd_same] at z
      cases z
      obtain ⟨oD, es, ep, z1, z2⟩ := hn
      exact xd_ok r ⟨oD, es, ep, (gk _ nd).trans z1, z2⟩
    · rw [upd_ne hb2] at z
      exact (I.hok b o z).stay (fun c u _ y => k' c u y) (fun c y => same y) (fun c xs y => same y)

def tNewX (fld : Str) (C : Addr) (te : TE) : TE := fun σ H Q => te σ H fun v H1 => ∀ a d, H1 a = none → H1 d = none → d ≠ a → Q (.ref a) (upd (upd H1 d (.xd [(fld, v)])) a (xV a (.ref C) (some d) true))
def tRzX (fld : Str) (C : Addr) (te : TE) : L2.St → Hp → XK → Prop := fun σ H Q => te σ H fun v H1 => ∀ d, H1 d = none → Q (.ref C) (some d) (upd H1 d (.xd [(fld, v)]))
variable {x : Str} {e : Expr} {te : TE} {p pos : Pos}
/-- C(e) as a value -/
theorem pe_newX (T : XCls X.prog X.K X.mg B newId initId bmB fld C) (hr : Room 1 X.A) (kC : keepIn X.K (.ref C) = true) (hg : Gl X x) (hm : X.mg x = some (.ref C)) (he : PE X e te)
    (hdb : (x == ("__debug__" : Str)) = false := by decide) (hs : starEach [e] X.env = (false, eval e X.env) :: starEach [] X.env := by rfl) : PE X (.Call (.Name x p) [e] [] pos) (tNewX fld C te) := by
  refine ⟨fun pins s σ H Q I h => ?_⟩
  refine wpAny_Call_Name_kw (ld_glob I hg hm ?_ hdb)
  refine callWith_K (h₀ := X.base) I.ok.mod.kin kC (spliced_more (thn (he.run pins s σ H _ I h) fun u s1 ⟨v, H1, I1, r1, q1⟩ => spliced_none ⟨I1.kIn, ?_⟩) hs) hs rfl
  refine x_new T hr I1 fun h' a t dx tk' k ha hd nd hx hn => ?_
  exact ⟨.ref a, _, x_laid I1 k ha hd nd hx hn r1, rfl, q1 a dx (I1.hok.fresh ha) (I1.hok.fresh hd) nd⟩
/-- raise C(e) -/
theorem pmk_newX (T : XCls X.prog X.K X.mg B newId initId bmB fld C) (hr : Room 1 X.A) (kC : keepIn X.K (.ref C) = true) (rC : Raises X (.ref C)) (hg : Gl X x) (hm : X.mg x = some (.ref C)) (he : PE X e te)
    (hdb : (x == ("__debug__" : Str)) = false := by decide) (hs : starEach [e] X.env = (false, eval e X.env) :: starEach [] X.env := by rfl) : PMk X (.Call (.Name x p) [e] [] pos) (tRzX fld C te) := by
  intro pins s σ H Q I h
  refine wpAny_Call_Name_kw (ld_glob I hg hm ?_ hdb)
  refine callWith_K (h₀ := X.base) I.ok.mod.kin kC (spliced_more (thn (he.run pins s σ H _ I h) fun u s1 ⟨v, H1, I1, r1, q1⟩ => spliced_none ⟨I1.kIn, ?_⟩) hs) hs rfl
  refine x_new T hr I1 fun h' a t dx tk' k ha hd nd hx hn => ?_
  obtain ⟨G, g1, g2, J⟩ := x_laidR (tk := tk') I1 k ha hd nd hn r1
  exact ⟨a, _, _, _, _, _, _, rfl, J, g1, g2, hx, ⟨rfl, rfl⟩, rfl, rfl, by rw [upd_ne (Ne.symm nd)]; exact I1.hok.fresh ha, rfl, I1.bare, rC, q1 dx (I1.hok.fresh hd)⟩
end
end Rm
namespace Rm
open PySem PySem.W PySem.Calls PyProof.Rows PySem.Spec L2
/-- what is asked of an exception's class for reading fields and isinstance -/
structure XKit (K : Frag) (C : Addr) : Prop where
  cl : (clsIn K C).isSome = true
  ga : findIn K (.ref C) "__getattribute__" = some (some (.builtin "BaseException.__getattribute__"))
  gg : findIn K (.ref C) "__getattr__" = some none
  ex : subIn K (.ref C) (.type "BaseException") = some true
  hd : hasDictIn K C = true
  ha : findIn K (.ref C) "__class__" = some (some (.builtin "object.__class__"))
  hn : specialIn K (.builtin "object.__class__") "__get__" = some (some (.builtin "getset_descriptor.__get__"))
  ht : takesIn K (.builtin "object.__class__") = some true
  hm : mroIn K C (.type "object") = some true
section
variable {X : Cx} {pins : List (Addr × Obj)} {σ : L2.St} {H : Hp} {s : Shared} {a C d : Addr} {fr : Bool} {fs : List (Str × V)}
theorem x_inst (I : Inv X pins σ H s) (ha : H a = some (xV a (.ref C) (some d) fr)) (hd : H d = some (.xd fs)) :
    ∃ (ox od : Obj), InstAt s.heap a ox C (some od) ∧ ∀ name, ∃ o, lookIn name od = some o ∧ RelO (fs.lookup name) o := by
  obtain ⟨o, vs, e, z, dd, _⟩ := xV_at I.hok ha
  have hx : ObjOk X.prog X.w H s.heap d (.xd fs) := I.hok d _ hd
  obtain ⟨mA, hns, hr⟩ := hx
  obtain ⟨od, ho, hl⟩ := lookIn_ns hns
  exact ⟨o, od, ⟨e, z.1, by unfold notCls; rw [dd], by rw [z.2]; exact ho⟩, fun name => ⟨_, hl name, hr name⟩⟩
/-- e.f where e is an exception -/
def tXat (K : Frag) (f : Str) (te : TE) : TE := fun σ H Q => te σ H fun x H1 => ∃ (a C d : Addr) (fr : Bool) (fs : List (Str × V)) (v : V), x = .ref a ∧ H1 a = some (xV a (.ref C) (some d) fr) ∧ H1 d = some (.xd fs) ∧ XKit K C ∧ findIn K (.ref C) f = some none ∧ fs.lookup f = some v ∧ Q v H1
theorem pe_xat {e : Expr} {te : TE} {pos : Pos} {n : Str} (he : PE X e te) (hb : attributeBase e n X.env (eval e X.env) = eval e X.env := by rfl) : PE X (.Attribute e n pos) (tXat X.K n te) := by
  refine ⟨fun pins s σ H Q I h => ?_⟩
  refine attr_of hb (thn (he.run pins s σ H _ I h) fun u s1 ⟨x, H1, I1, rx, a, C, d, fr, fs, v, ex, ha, hd, T, hno, l, q⟩ => ?_)
  subst ex
  obtain rfl : u = Value.ref a := rx
  obtain ⟨ox, od, J, hl⟩ := x_inst I1 ha hd
  obtain ⟨o, h1, h2⟩ := hl n
  rw [l] at h2
  obtain ⟨u, rfl, ru⟩ := RelO.some_of h2
  exact HandSPX.exc_get I1.kIn J T.ga T.gg T.ex (findObj_own T.hd hno rfl h1) (handed_of ru) ⟨v, H1, I1.tok _, ru, q⟩
/-- isinstance(e, C) where e is an exception -/
def rIsX (K : Frag) : List V → Hp → VK → Prop := fun xs H Q => ∃ (a C d : Addr) (fr : Bool) (fs : List (Str × V)) (c : V) (u : Value) (b : Bool), xs = [.ref a, c] ∧ ClsV c u ∧ H a = some (xV a (.ref C) (some d) fr) ∧ H d = some (.xd fs) ∧ XKit K C ∧ kitOne K (.ref C) u = some b ∧ Q (.bl b) H
theorem call_isX : CallR X (.builtin "isinstance") (rIsX X.K) := fun pins s σ H xs us Q I r ⟨a, C, d, fr, fs, c, u, b, ex, hc, ha, hd, T, hk, q⟩ => by
  subst ex
  obtain ⟨u1, u2, rfl, r1, r2⟩ := vals2 r
  obtain rfl : u1 = Value.ref a := r1
  obtain rfl := ClsV.eq hc r2
  obtain ⟨ox, od, J, hl⟩ := x_inst I ha hd
  exact kia_one (kitx_exc T.cl T.ga T.gg T.ex T.ha T.hn T.ht T.hm) I.kIn J hk (by intro z; cases z) fun tk => ⟨.bl b, _, I.tok _, rfl, q⟩
end
end Rm
namespace Rm
open PySem PySem.W PySem.Calls PyProof.Rows PySem.Spec L2
theorem traced_keeps {h h' base : Heap} {e : Addr} {Z : Obj → Prop} {fl : Value} (x : HandSPX.TracedZ h base e Z fl) (k : ∀ b o, h.get? b = some o → h'.get? b = some o) : HandSPX.TracedZ h' base e Z fl := by
  obtain ⟨oe, vs, T, oT, ts, a1, a2, a3, a4, a5, a6, a7, a8, a9⟩ := x
  exact ⟨oe, vs, T, oT, ts, k _ _ a1, a2, a3, a4, a5, a6, k _ _ a7, a8, a9⟩
theorem flying_keeps {h h' base : Heap} {l : List Env} {e : Addr} {Z : Obj → Prop} (x : HandSPX.FlyingZ base l e Z h) (k : ∀ b o, h.get? b = some o → h'.get? b = some o) : HandSPX.FlyingZ base l e Z h' := by
  obtain ⟨a1, a2, a3, a4⟩ := x
  exact ⟨fun b o z => k b o (a1 b o z), a2, Heap.FunFrames.of_keeps (fun b o z _ => ⟨o, k b o z, rfl⟩) a3, traced_keeps a4 k⟩
section
variable {X : Cx} {pins : List (Addr × Obj)} {σ : L2.St} {H : Hp} {s : Shared}
/-- a pinned record is tracked from now on -/
theorem Inv_retrack {a : Addr} {oe : Obj} {vs : Array Value} {cls : Value} {d : Option Addr} (I : Inv X ((a, oe) :: pins) σ H s) (hz : Zc cls d oe) (hd : oe.data = .fields vs) (h0 : X.s_0.heap.get? a = none) (hp : ∀ p ∈ X.pn ++ pins, p.1 ≠ a) :
    Inv X pins σ (upd H a (xV a cls d false)) s := by
  obtain ⟨ea, na, nL, nF, _⟩ := I.pin (a, oe) (List.mem_append_right _ List.mem_cons_self)
  have na : H a = none := na
  have at' : ∀ {b : Addr} {o : HO}, H b = some o → b ≠ a := fun {b o} z => ne_of_none z na
  have same : ∀ {b : Addr} {o : HO}, H b = some o → upd H a (xV a cls d false) b = some o := fun {b o} z => by
    rw [upd_ne (at' z)]
    exact z
  have n0 : ∀ {b : Addr} {o : Obj}, X.s_0.heap.get? b = some o → b ≠ a := fun {b o} z y => by
    rw [y, h0] at z
    cases z
  refine ⟨I.ok, I.os, I.bare, ⟨fun b o e n hb hx => I.base.keep b o e n hb hx, fun b o e n hb hx => I.base.slot b o e n hb hx, fun b o e n hx => ?_, fun b o e hx => I.base.there b o e hx, fun b xs e => same (I.base.tups b xs e), fun b o u e => same (I.base.frzs b o u e), fun b ps e => ?_⟩,
    I.loc, I.cell, ?_, fun x c e => ?_, fun p hq => ?_, fun b o z => ?_, I.len⟩
  · rw [upd_ne (n0 e)]
    exact I.base.free b o e n hx
  · obtain ⟨m, y⟩ := I.base.tbls b ps e
    exact ⟨m, same y⟩
  · rw [upd_ne (Ne.symm nL)]
    exact I.free
  · have hc : c ≠ a := fun y => by
      obtain ⟨v, o, z1, z2⟩ := I.cell x c e
      have ea' : s.heap.get? a = some oe := ea
      rw [y, ea'] at z1
      cases z1
      rw [hd] at z2
      cases z2
    rw [upd_ne hc]
    exact I.freeC x c e
  · obtain ⟨y1, y2, y3⟩ := I.pin p (by
      rcases List.mem_append.mp hq with q | q
      · exact List.mem_append_left _ q
      · exact List.mem_append_right _ (List.mem_cons_of_mem _ q))
    exact ⟨y1, by rw [upd_ne (hp p hq)]; exact y2, y3⟩
  · by_cases hb : b = a
    · subst hb
      rw [upd_same] at z
      cases z
      exact xV_ok ea hz hd fun q => by cases q
    · rw [upd_ne hb] at z
      exact (I.hok b o z).stay (fun c u _ y => y) (fun c y => same y) (fun c xs y => same y)

/-- what 'except (A, B, C) as e: caught = e' wishes of an exception of the body: e in slot i, caught in slot j -/
def wCaught (K : Frag) (cs : List Value) (i j : Nat) (Wout : WX) (D : Ends) : WX := fun cls d σ H =>
  ∃ b, exmAny K cls cs = some b ∧ (b = true → ∀ a, H a = none → D.nx (((σ.set i (some (.ref a))).set j (some (.ref a))).set i none) (upd H a (xV a cls d false))) ∧ (b = false → Wout cls d σ H)

theorem names_load {x : Str} {c : Value} {np : Pos} {A : Around} {Q : Value → Shared → Prop} {E : Value → Shared → Prop} (I : Inv X pins σ H s) (hA : X.A = A) (hc : Names X x c) (q : Q c s) : wpAny (model X.prog X.w) A (eval (.Name x np) X.env) Q E s := by
  subst hA
  obtain ⟨hg, hdbg, hm | ⟨hm, hv, hnn⟩⟩ := hc
  · exact ld_glob I hg hm q hdbg
  · exact ld_blt I hg hm hv q hnn hdbg

variable {x1 x2 x3 n m : Str} {c1 c2 c3 : Value} {i j : Nat} {body : List Stmt} {np1 np2 np3 tp0 pos pos' p1 p2 p3 : Pos} {tk : Nat} {tb : WX → TS} {Wout : WX}
theorem ps_try_caught (hs : X.stack = X.env :: X.outer) (hf : X.env.frame = some X.env.locals) (hN : X.N.Nodup) (hi : X.N[i]? = some n) (hln : X.env.kindOf n = some .local) (hj : X.N[j]? = some m) (hlm : X.env.kindOf m = some .local)
    (h1 : Names X x1 c1) (h2 : Names X x2 c2) (h3 : Names X x3 c3) (tko : Takes X Wout)
    (hb : ∀ (W : WX) (pn : List (Addr × Obj)) (xe : Value → Shared → Prop), Takes (X.tr pn xe) W → PassesOwn (model X.prog X.w) X.A X.env xe → PSs (X.tr pn xe) body (tb W))
    (hex : X.ex = [] := by rfl) (hd1 : (n == ("__debug__" : Str)) = false := by decide) (hd2 : (n == ("__classdict__" : Str)) = false := by decide) :
    PS X (.Try body [.ExceptHandler (some (.Tuple [.Name x1 np1, .Name x2 np2, .Name x3 np3] tk tp0)) (some n) [.Assign [.Name m p1] (.Name n p2) p3] pos'] [] [] pos)
      (fun D σ H => tb (wCaught X.K [c1, c2, c3] i j Wout D) D σ H) := by
  refine ⟨fun pins s σ H D I h => ?_⟩
  have ok := I.ok
  have hfr : X.A.frames = some (X.env :: X.outer) := by rw [ok.frames, hs]
  refine wpAny_Try_except ?_
  refine wpAny_mono ((hb (wCaught X.K [c1, c2, c3] i j Wout D) (X.pn ++ pins) (fun e s1 => wpAny (model X.prog X.w) X.A (noteFrame e X.env) (fun _ s2 => wpAny (model X.prog X.w) X.A (setFlight e none) (fun _ s3 =>
    wpAny (model X.prog X.w) X.A (handleBy e X.env [.ExceptHandler (some (.Tuple [.Name x1 np1, .Name x2 np2, .Name x3 np3] tk tp0)) (some n) [.Assign [.Name m p1] (.Name n p2) p3] pos']) (SP X pins D) X.xe s3) X.xe s2) X.xe s1) (fun u s' xx => ?_) PassesOwn.looking).run [] s σ H D (I.toTry _) h) (fun f s1 hsp => ?_) (fun e s1 he => he)
  · obtain ⟨a, G, sI, pins', σ', H', cls, d, rfl, J', nb, up, sky, na, os, ag, b, hb1, hyes, hno⟩ := xx
    have J : Inv X pins σ' H' sI := J'.ofTry ok
    have sky' : Sky G (X.env :: X.outer) a (Zc cls d) X.env.locals s'.heap := by rw [← hs]; exact sky
    show wpAny (model X.prog X.w) X.A (noteFrame (.ref a) X.env) _ _ _
    refine Sky.land Zc.steady hfr hf sky' fun g3 fl3 up3 => ?_
    have J3 : Inv X pins σ' H' { s' with heap := g3 } := J.landed nb fl3.1 (up.trans up3) os ag
    obtain ⟨oe3, vs3, he3, hz3, hd3⟩ := fl3.there
    have nfr : a ∉ frs (X.env :: X.outer) := fun hm => by
      obtain ⟨_, o', e', hnf⟩ := fl3.2.2.1.mem hm
      rw [he3] at e'
      cases e'
      exact hnf _ hd3
    have nL : a ≠ X.env.locals := fun z => nfr (List.mem_filterMap.mpr ⟨X.env, List.mem_cons_self, by rw [hf, z]⟩)
    have nF : a ∉ X.fs := fun hm => by
      obtain ⟨e, he, q⟩ := List.mem_filterMap.mp hm
      exact nfr (List.mem_filterMap.mpr ⟨e, List.mem_cons_of_mem _ he, q⟩)
    -- it stood neither at the start of the def nor among what is pinned
    have gnone : G.get? a = none := fl3.2.1
    have stk : ∀ b ∈ frs X.stack, b ≠ a := fun b hb y => nfr (by rw [hs] at hb; rw [← y]; exact hb)
    have hp : ∀ p ∈ X.pn ++ pins, p.1 ≠ a := fun p hp y => by
      obtain ⟨z1, _, z3, z4, _⟩ := J.pin p hp
      have z5 : p.1 ∉ frs X.stack := fun hm => by
        rcases List.mem_cons.mp (J.stkSub _ hm) with q | q
        · exact z3 q
        · exact z4 q
      have := nb _ _ z1 z5
      rw [y, gnone] at this
      cases this
    have h0 : X.s_0.heap.get? a = none := by
      cases z : X.s_0.heap.get? a with
      | none => rfl
      | some o =>
        exfalso
        obtain ⟨o', z'⟩ := J.base.there a o z (by rw [hex]; simp)
        have := nb a o' z' (fun hm => stk a hm rfl)
        rw [gnone] at this
        cases this
    have S3 := J3.suite he3 hd3 na nL nF
    refine wpAny_handleBy_cons (codeAny_handlers_test ?_) (by intro q; cases q)
    have LT : ∀ {h : Heap}, (∀ b o, g3.get? b = some o → h.get? b = some o) → Looks (model X.prog X.w) h (typeOf (.ref a)) cls := fun {h} kk A Q E s k q => wpAny_typeOf_ref (k _ _ (kk _ _ he3)) (by rw [hz3.1]; exact q)
    refine wpAny_Tuple_spliced ?_
    have ld : ∀ {x : Str} {c : Value} {np : Pos} {Q : Value → Shared → Prop} {E : Value → Shared → Prop}, Names X x c → Q c { s' with heap := g3 } → wpAny (model X.prog X.w) (X.A.mark (some (.ref a))) (eval (.Name x np) X.env) Q E { s' with heap := g3 } :=
      fun {x c np Q E} hc q => names_load (X := X.suite a ((a, oe3) :: (X.pn ++ pins))) S3 rfl hc q
    refine spliced_more (ld h1 (spliced_more (ld h2 (spliced_more (ld h3 (spliced_none ⟨by rw [sizeLine_eq]; show 3 ≤ 16777216; decide, ?_⟩)))))) 
    obtain ⟨g4, hg4⟩ : ∃ g4, g4 = g3.push { cls := .type "tuple", data := .seq [c1, c2, c3].toArray } := ⟨_, rfl⟩
    have k4 : ∀ b o, g3.get? b = some o → g4.get? b = some o := fun b o z => by rw [hg4]; exact Heap.get?_push_of_some _ z
    have htp : g4.get? g3.objs.size = some { cls := .type "tuple", data := .seq [c1, c2, c3].toArray } := by rw [hg4]; exact Heap.get?_push_size _ rfl
    have J4 : Inv X pins σ' H' { s' with heap := g4 } := J3.kept (t' := s'.toks) k4
    have fl4 := flying_keeps fl3 k4
    rw [← hg4]
    have LM := exm_tup3 (M := model X.prog X.w) J4.kIn (LT k4) htp hb1
    refine LM.here ?_
    cases b with
    | true =>
      refine codeAny_handlers_suite_as ?_
      refine HandSPX.lands_againZ fl4 fun g5 fl5 up5 => ?_
      have u35 : g3.UpToSlots g5 := fun b o z hd => up5 b o (k4 b o z) hd
      have J5 : Inv X pins σ' H' { s' with heap := g5 } := J.landed nb fl5.1 ((up.trans up3).trans u35) os ag
      obtain ⟨oe5, vs5, he5, hz5, hd5⟩ := fl5.there
      have S5 := J5.suite he5 hd5 na nL nF
      refine store_ok (X := X.suite a ((a, oe5) :: (X.pn ++ pins))) (v := .ref a) S5 hN hi (.inl hln) rfl (fun s6 S6 => ?_) (.inr hln)
      have hlen : i < σ'.length := by
        have := J5.len
        rw [this]
        exact (List.getElem?_eq_some_iff.mp hi).1
      have B : PSs (X.suite a ((a, oe5) :: (X.pn ++ pins))) [.Assign [.Name m p1] (.Name n p2) p3] (tAsg (tVar i) (gName j)) :=
        pss_one (ps_set hN hj (.inl hlm) (pe_var hi (.inl hln) hd1 hd2) rfl (.inr hlm))
      refine wpAny_mono (B.run [] s6 _ H' { nx := fun σ7 H7 => σ7 = ((σ'.set i (some (.ref a))).set j (some (.ref a))) ∧ H7 = H', rt := fun _ _ => False } S6 ⟨.ref a, by simp [hlen], rfl, rfl⟩) (fun f s7 hsp => ?_) (fun _ _ z => False.elim z)
      cases f with
      | next =>
        obtain ⟨σ7, H7, S7, rfl, rfl⟩ := hsp
        have U : Inv X ((a, oe5) :: pins) ((σ'.set i (some (.ref a))).set j (some (.ref a))) H7 s7 :=
          ⟨ok, S7.os, S7.bare, S7.base, S7.loc, S7.cell, S7.free, S7.freeC, fun p hq => S7.pin p (by
            rw [List.append_nil]
            rcases List.mem_append.mp hq with q | q
            · exact List.mem_cons_of_mem _ (List.mem_append_left _ q)
            · rcases List.mem_cons.mp q with q | q
              · exact q ▸ List.mem_cons_self
              · exact List.mem_cons_of_mem _ (List.mem_append_right _ q)), S7.hok, S7.len⟩
        exact gone_ok U hN hi hln fun s8 J8 => ⟨_, _, Inv_retrack J8 hz5 hd5 h0 hp, hyes rfl a na⟩
      | brk =>
        obtain ⟨_, _, _, q⟩ := hsp
        exact False.elim q
      | cont =>
        obtain ⟨_, _, _, q⟩ := hsp
        exact False.elim q
      | ret u =>
        obtain ⟨_, _, _, _, _, q⟩ := hsp
        exact False.elim q
    | false =>
      show wpAny _ X.A (handleBy (.ref a) X.env []) _ _ _
      refine wpAny_handleBy_nil ?_
      obtain ⟨_, _, _, oe, vs, T, oT, ts', he, hz, hd, h1', hr⟩ := id fl4
      unfold PySem.passOn
      refine wpAny_bind (wpAny_field he hd h1' ?_)
      rw [if_neg (show ¬ ((Value.ref T == Value.none) = true) from by simp)]
      have u34 : g3.UpToSlots g4 := Heap.UpToSlots.of_keeps k4
      have fin : wpAny (model X.prog X.w) X.A (setFlight (.ref a) X.env.frame) (fun _ s4 => wpAny (model X.prog X.w) X.A (throw (.ref a) : Sem Flow) (SP X pins D) X.xe s4) X.xe { s' with heap := g4 } := by
        rw [hf]
        refine HandSPX.setFlight_upZ fl4 fun g5 hh5 up5 => wpAny_throw (tko _ _ ?_)
        exact ⟨a, G, sI, pins, σ', H', cls, d, rfl, J, nb, ((up.trans up3).trans u34).trans up5, .inr (.inr (by rw [hs]; exact hh5)), na, os, ag, hno rfl⟩
      first
        | exact wpAny_bind (wpAny_pure (wpAny_bind fin))
        | exact wpAny_bind fin
  · cases f with
    | next =>
      obtain ⟨σ', H', J', q⟩ := hsp
      exact wpAny_execs_nil ⟨σ', H', J'.ofTry ok, q⟩
    | brk =>
      obtain ⟨σ', H', J', q⟩ := hsp
      exact ⟨σ', H', J'.ofTry ok, q⟩
    | cont =>
      obtain ⟨σ', H', J', q⟩ := hsp
      exact ⟨σ', H', J'.ofTry ok, q⟩
    | ret u =>
      obtain ⟨v, σ', H', J', r, q⟩ := hsp
      exact ⟨v, σ', H', J'.ofTry ok, r, q⟩
end
end Rm
/-! Defs that may raise and may show data: what is around a call shows nothing yet (guards). -/
namespace Rm
open PySem PySem.W PySem.Calls PyProof.Rows PySem.Spec L2
/-- a def's body keeps spB, whatever way its parameters were bound -/
def FnB (P : Program) (w : World) (K : Frag) (mg : Str → Option Value) (base : Heap) (k : Nat) (f : Addr) (fd : FuncData) (ps : List Str) (spB : Sp) : Prop :=
  ∀ (A : Around) (outer : List Env) (s : Shared) (H : Hp) (args : Args) (Q : VK) (E : XK) (G : List V → Hp → Prop), Room k A → A.guards = some [] → Env0 P w K mg base A outer s H →
    StX.Bnd (L2.CX P w) P w K mg base fd args ps A outer s H E G → (∀ vs H2, G vs H2 → spB vs H2 Q E) → codeAny (model P w) A (.call (.ref f) args) (CR (L2.CX P w) outer P w H s Q E) s
/-- f called with positional arguments and then the keywords ks -/
def CallG (P : Program) (w : World) (K : Frag) (mg : Str → Option Value) (base : Heap) (k : Nat) (f : Addr) (ks : List Str) (sp : Sp) : Prop :=
  ∀ (A : Around) (outer : List Env) (s : Shared) (H : Hp) (us ws : List Value) (vs zs : List V) (Q : VK) (E : XK), Room k A → A.guards = some [] → Env0 P w K mg base A outer s H → Vals vs us → Vals zs ws →
    ws.length = ks.length → sp (vs ++ zs) H Q E → codeAny (model P w) A (.call (.ref f) ⟨us, ks.zip ws⟩) (CR (L2.CX P w) outer P w H s Q E) s
section
variable {P : Program} {w : World} {K : Frag} {mg : Str → Option Value} {base : Heap} {k n : Nat} {f : Addr} {fd : FuncData} {ps ks : List Str} {spB sp : Sp}
theorem FnB.mono {j : Nat} (F : FnB P w K mg base j f fd ps spB) (h : j ≤ k) : FnB P w K mg base k f fd ps spB := fun A o s H a Q E G r g e b q => F A o s H a Q E G (r.mono h) g e b q
theorem CallG.mono {j : Nat} (F : CallG P w K mg base j f ks sp) (h : j ≤ k) : CallG P w K mg base k f ks sp := fun A o s H us ws vs zs Q E r g e a b c d => F A o s H us ws vs zs Q E (r.mono h) g e a b c d
/-- bound without anything made: parameters in the order ps -/
theorem FnB.call (F : FnB P w K mg base k f fd ps spB) (gV : List V → List V) (g : List Value → List Value)
    (hg : ∀ (vs : List V) (us : List Value), Vals vs us → Vals (gV vs) (g us)) (hl : ∀ vs H Q E, spB vs H Q E → vs.length = ps.length)
    (hb : ∀ (s : Shared) (us ws : List Value), K.In s.heap → ws.length = ks.length → (g (us ++ ws)).length = ps.length → BindsTo s fd ⟨us, ks.zip ws⟩ (ps.zip (g (us ++ ws)))) :
    CallG P w K mg base k f ks (fun vs H Q E => spB (gV vs) H Q E) := fun A outer s H us ws vs zs Q E hr hgd e0 r1 r2 hw hsp => by
  have r := hg _ _ (r1.append r2)
  have len := hl _ _ _ _ hsp
  refine F A outer s H _ Q E (fun vs' H2 => vs' = gV (vs ++ zs) ∧ H2 = H) hr hgd e0 (fun A' Ex Q' h => ?_) fun vs' H2 z => by
    obtain ⟨rfl, rfl⟩ := z
    exact hsp
  refine hb s us ws (e0.mod.kin.keeps fun b o e => (e0.bs b o e).1) hw (by rw [← r.length]; exact len) _ _ _ _ ?_
  exact h s H _ _ e0 Un.refl rfl (fun _ _ z => z) r len ⟨rfl, rfl⟩
/-- plain positional -/
theorem FnB.pos (F : FnB P w K mg base k f fd ps spB) (hl : ∀ vs H Q E, spB vs H Q E → vs.length = ps.length) (hb : Binds K fd ps []) : CallG P w K mg base k f [] spB :=
  F.call (ks := []) (fun vs => vs) (fun us => us) (fun _ _ r => r) hl (fun s us ws hk hw hl => by
    cases ws with
    | nil =>
      have := hb s us hk (by simpa using hl)
      simpa using this
    | cons _ _ => cases hw)
theorem FnB.posD (F : FnB P w K mg base k f fd ps spB) (hl : ∀ vs H Q E, spB vs H Q E → vs.length = ps.length) {ds : List Value} {dvs : List V} (hd : Vals dvs ds) (hb : Binds K fd ps ds) : CallG P w K mg base k f [] (fun vs H Q E => spB (vs ++ dvs) H Q E) :=
  F.call (ks := []) (fun vs => vs ++ dvs) (fun us => us ++ ds) (fun _ _ r => r.append hd) hl (fun s us ws hk hw hl => by
    cases ws with
    | nil =>
      have := hb s us hk (by simpa using hl)
      simpa using this
    | cons _ _ => cases hw)
/-- def f(*xs) -/
theorem FnB.star {pv : Str} (F : FnB P w K mg base k f fd [pv] spB) (hb : ∀ rest : List Value, bindArgs fd ⟨rest, []⟩ = (newTuple rest >>= fun t => pure [(pv, t)])) :
    CallG P w K mg base k f [] (fun vs H Q E => vs.length ≤ sizeLine ∧ ∀ p, H p = none → spB [.ref p] (upd H p (.tup vs)) Q E) := fun A outer s H us ws vs zs Q E hr hgd e0 r1 r2 hw hsp => by
  cases ws with
  | cons _ _ => cases hw
  | nil =>
    cases r2
    rw [List.append_nil] at hsp
    obtain ⟨hz, hsp⟩ := hsp
    have hn : H s.heap.objs.size = none := e0.hok.fresh (Nat.le_refl _)
    have hl : us.length ≤ sizeLine := by rw [← r1.length]; exact hz
    refine F A outer s H _ Q E (fun vs' H2 => ∃ p, H p = none ∧ vs' = [.ref p] ∧ H2 = upd H p (.tup vs)) hr hgd e0 (fun A' Ex Q' h => ?_) fun vs' H2 z => by
      obtain ⟨p, hp, rfl, rfl⟩ := z
      exact hsp p hp
    show wpAny _ _ (bindArgs fd ⟨us, []⟩) _ _ _
    rw [hb]
    have new : ObjOk P w (upd H s.heap.objs.size (.tup vs)) (s.heap.push ({ cls := .type "tuple", data := .seq us.toArray } : Obj)) s.heap.objs.size (.tup vs) := ⟨hz, us, r1, ⟨_, Heap.get?_push_size _ rfl, rfl, _, rfl⟩⟩
    refine wpAny_bind (wpAny_newTuple (wpAny_pure ?_) hl)
    exact h _ _ [.ref s.heap.objs.size] [.ref s.heap.objs.size] (StX.env0_laid e0 new) (StX.un_laid hn) rfl (fun e s' z => StX.cxUp outer s H { s with heap := s.heap.push ({ cls := .type "tuple", data := .seq us.toArray } : Obj) } (upd H s.heap.objs.size (.tup vs)) E e s' (StX.un_laid hn) (fun b o q => Heap.get?_push_of_some _ q) rfl z) (.cons rfl .nil) rfl ⟨_, hn, rfl, rfl⟩
/-- from a body to the def -/
theorem fnB_of {name qual : Str} {params : Arguments} {body : List Stmt} {scope : Scope} {dV kV doc pm cdv ct oc : Value} {an od : Option Addr} {osl : Array (Option Value)} {N : List Str}
    (lk : K.lookup f = some ⟨oc, od, .func (fnOf name qual params body scope dV kV doc pm an cdv ct), osl⟩) (hcd : codeIn K cdv qual = true) (S : FnScope N ps scope)
    (hbody : ∀ (A : Around) (outer : List Env) (s : Shared) (H : Hp) (vs : List V) (Q : VK) (E : XK), Room k (A.deeper (envOfC qual scope s.heap.objs.size f cdv)) → A.guards = some [] → spB vs H Q E →
      ∃ t, PSs (cxOf (L2.CX P w) P w K mg base N qual scope f cdv A outer s H E) body t ∧ t { nx := fun _ H' => Q .non H', rt := Q } (start N vs) H) :
    FnB P w K mg base (k + 1) f (fnOf name qual params body scope dV kV doc pm an cdv ct) ps spB := fun A outer s H args Q E G hr hg e0 hb hsp =>
  StX.run_bnd lk hcd S hr e0 hb fun s2 H2 vs g hr' => hbody A outer s2 H2 vs Q E hr' hg (hsp vs H2 g)
/-- the same, of a def of the text -/
theorem Fun_okB {x qual : Str} {st : Stmt} {N : List Str} (F : Fun K x qual st f fd) (S : FnScope N ps (defScope st))
    (hbody : ∀ (cdv : Value) (A : Around) (outer : List Env) (s : Shared) (H : Hp) (vs : List V) (Q : VK) (E : XK), Room k (A.deeper (envOfC qual (defScope st) s.heap.objs.size f cdv)) → A.guards = some [] → spB vs H Q E →
      ∃ t, PSs (cxOf (L2.CX P w) P w K mg base N qual (defScope st) f cdv A outer s H E) (defBody st) t ∧ t { nx := fun _ H' => Q .non H', rt := Q } (start N vs) H) : FnB P w K mg base (k + 1) f fd ps spB := by
  obtain ⟨oc, od, kV, doc, pm, an, cdv, ct, osl, rfl, lk, hcd⟩ := F.ex
  exact fnB_of lk hcd S fun A outer s H vs Q E hr hg hsp => hbody cdv A outer s H vs Q E hr hg hsp
end
section
variable {X : Cx} {k : Nat} {f : Addr} {ks : List Str} {sp : Sp} {W : WX} {x : Str} {p pos : Pos} {e : Expr} {es : List Expr} {kws : List Keyword} {t tk : TA}
theorem run_callG {pins : List (Addr × Obj)} {σ : L2.St} {H : Hp} {s : Shared} {Q : VK} {us ws : List Value} {vs zs : List V} (F : CallG X.prog X.w X.K X.mg X.base k f ks sp) (hr : Room k X.A) (hg : X.A.guards = some []) (tko : Takes X W) (I : Inv X pins σ H s)
    (r : Vals vs us) (rz : Vals zs ws) (hl : ws.length = ks.length) (h : sp (vs ++ zs) H Q (WE W σ)) : wpAny (model X.prog X.w) X.A (call (.ref f) us (ks.zip ws)) (EP X pins σ Q) X.xe s := by
  refine wpAny_call (codeAny_mono (F X.A X.stack s H us ws vs zs Q (WE W σ) hr hg I.env0 r rz hl h) fun r s' hq => ?_)
  cases r with
  | error e => exact passAt tko σ pins H s e s' I hq
  | ok fl =>
    cases fl with
    | ret u => exact I.after hq
    | next => exact False.elim hq
    | brk => exact False.elim hq
    | cont => exact False.elim hq
def tCallG (sp : Sp) (W : WX) (t : TA) : TE := fun σ H Q => t σ H fun vs H1 => sp vs H1 Q (WE W σ)
def tCallGK (sp : Sp) (W : WX) (t tk : TA) : TE := fun σ H Q => t σ H fun vs H1 => tk σ H1 fun zs H2 => sp (vs ++ zs) H2 Q (WE W σ)
/-- f(e, ..) -/
theorem pe_callG (F : CallG X.prog X.w X.K X.mg X.base k f [] sp) (hr : Room k X.A) (hgd : X.A.guards = some []) (tko : Takes X W) (hg : Gl X x) (hm : X.mg x = some (.ref f)) (hk : keepIn X.K (.ref f) = true) (ha : PA X (e :: es) t)
    (hdb : (x == ("__debug__" : Str)) = false := by decide) (he : starEach (e :: es) X.env = (false, eval e X.env) :: starEach es X.env := by rfl) (hpl : (backTo pos (starEach es X.env)).any (·.1) = false := by rfl) :
    PE X (.Call (.Name x p) (e :: es) [] pos) (tCallG sp W t) := by
  refine ⟨fun pins s σ H Q I h => wpAny_Call_Name_kw (ld_glob I hg hm ?_ hdb)⟩
  refine callWith_K (h₀ := X.base) I.ok.mod.kin hk (thn (ha.run pos pins s σ H _ I h) fun us s1 ⟨vs, H1, I1, r, q⟩ => ⟨I1.kIn, ?_⟩) he hpl
  exact run_callG (ws := []) (zs := []) F hr hgd tko I1 r .nil rfl (by rw [List.append_nil]; exact q)
/-- f() -/
theorem pe_callG0 (F : CallG X.prog X.w X.K X.mg X.base k f [] sp) (hr : Room k X.A) (hgd : X.A.guards = some []) (tko : Takes X W) (hg : Gl X x) (hm : X.mg x = some (.ref f)) (hk : keepIn X.K (.ref f) = true)
    (hdb : (x == ("__debug__" : Str)) = false := by decide) : PE X (.Call (.Name x p) [] [] pos) (tCallG sp W tNil) := by
  refine ⟨fun pins s σ H Q I h => wpAny_Call_Name_kw (ld_glob I hg hm ?_ hdb)⟩
  refine callWith_K0 I.kIn hk ?_
  exact run_callG (ws := []) (zs := []) F hr hgd tko I .nil .nil rfl h
/-- f(e, .., k=v, ..) -/
theorem pe_callGK (F : CallG X.prog X.w X.K X.mg X.base k f ks sp) (hr : Room k X.A) (hgd : X.A.guards = some []) (tko : Takes X W) (hg : Gl X x) (hm : X.mg x = some (.ref f)) (hk : keepIn X.K (.ref f) = true) (ha : PA X (e :: es) t) (hkw : PK X kws tk)
    (hall : (backToKw pos (keywordEach kws X.env)).all (·.1.isSome) = true := by rfl) (hks : (backToKw pos (keywordEach kws X.env)).filterMap (·.1) = ks := by rfl)
    (hdb : (x == ("__debug__" : Str)) = false := by decide) (he : starEach (e :: es) X.env = (false, eval e X.env) :: starEach es X.env := by rfl)
    (hpl : ((backTo pos (starEach (e :: es) X.env)).any (·.1) || (backToKw pos (keywordEach kws X.env)).any (·.1.isNone)) = false := by rfl) :
    PE X (.Call (.Name x p) (e :: es) kws pos) (fun σ H Q => t σ H fun vs H1 => tk σ H1 fun zs H2 => zs.length = ks.length ∧ sp (vs ++ zs) H2 Q (WE W σ)) := by
  refine ⟨fun pins s σ H Q I h => wpAny_Call_Name_kw (ld_glob I hg hm ?_ hdb)⟩
  refine callWith_KW (h₀ := X.base) I.ok.mod.kin hk hall (thn (ha.run pos pins s σ H _ I h) fun us s1 ⟨vs, H1, I1, r, q⟩ => ?_) hpl he
  refine thn (hkw.run pos pins s1 σ H1 _ I1 q) fun ws s2 ⟨zs, H2, I2, rz, hl, q2⟩ => ⟨I2.kIn, ?_⟩
  rw [hks]
  exact run_callG F hr hgd tko I2 r rz (by rw [← rz.length]; exact hl) q2
/-- f(k=v, ..) -/
theorem pe_callGK0 (F : CallG X.prog X.w X.K X.mg X.base k f ks sp) (hr : Room k X.A) (hgd : X.A.guards = some []) (tko : Takes X W) (hg : Gl X x) (hm : X.mg x = some (.ref f)) (hk : keepIn X.K (.ref f) = true) (hkw : PK X kws tk)
    (hall : (backToKw pos (keywordEach kws X.env)).all (·.1.isSome) = true := by rfl) (hks : (backToKw pos (keywordEach kws X.env)).filterMap (·.1) = ks := by rfl)
    (hdb : (x == ("__debug__" : Str)) = false := by decide)
    (hpl : ((backToKw pos (keywordEach kws X.env)).any (·.1.isNone)) = false := by rfl) :
    PE X (.Call (.Name x p) [] kws pos) (fun σ H Q => tk σ H fun zs H2 => zs.length = ks.length ∧ sp zs H2 Q (WE W σ)) := by
  refine ⟨fun pins s σ H Q I h => wpAny_Call_Name_kw (ld_glob I hg hm ?_ hdb)⟩
  show wpAny _ _ (callWith pos (.ref f) [] [] (backToKw pos (keywordEach kws X.env))) _ _ _
  refine callWith_of (P := Frag.In X.K) (by show (false || _) = false; rw [hpl]; rfl) (keeps_K hk) (evalArgs_kw_nil hall ?_)
  refine thn (hkw.run pos pins s σ H _ I h) fun ws s2 ⟨zs, H2, I2, rz, hl, q2⟩ => ⟨I2.kIn, ?_⟩
  rw [hks]
  exact run_callG (us := []) (vs := []) F hr hgd tko I2 .nil rz (by rw [← rz.length]; exact hl) q2
end
end Rm
namespace Rm
open PySem PySem.W PySem.Calls PyProof.Rows PySem.Spec L2
/-- the law's own call: from its promise to what the statement wants -/
theorem lawG {P : Program} {w : World} {K : Frag} {mg mb : Str → Option Value} {k : Nat} {fa a : Addr} {sp : Sp} {s₁ : Shared} {vs : List Value} {ns : List Int}
    (KX : K.In s₁.heap) (hns : s₁.heap.Ns mainGlobals mg) (hb : s₁.heap.Ns builtinsNs mb) (hbb : ∀ x : Str, x ≠ "__name__" → mb x = bootBuiltins x) (hlim : s₁.heap.NoLimit) (hg : s₁.gens = #[])
    (ha : s₁.heap.get? a = some { cls := .type "list", data := .seq vs.toArray }) (hi : IntsAre vs ns) (hl : ns.length ≤ sizeLine) (hr : Room k callerA)
    (F : ∀ base : Heap, K.In base → base.Ns mainGlobals mg → CallG P w K mg base k fa [] sp)
    (hsp : ∀ H : Hp, Only H → SqL K H a (ns.map V.int) → sp [.ref a] H (fun v _ => v = .bl true) fun _ _ _ => False) :
    codeAny (model P w) callerA (.call (.ref fa) ⟨[.ref a], []⟩) (fun r s' => r = .ok (.ret (.bool true)) ∧ OldK s₁.heap s'.heap ∧ s'.os = s₁.os ∧ AllBare s'.gens) s₁ := by
  have rv := vals_ints hi
  obtain ⟨H, hO, hS, hok, hA⟩ : ∃ H : Hp, Only H ∧ SqL K H a (ns.map V.int) ∧ HOk P w H s₁.heap ∧ ∀ b u, H b = some u → b = a ∧ K.lookup a = none := by
    cases hk : K.lookup a with
    | some o =>
      have e := KX a o hk
      rw [ha] at e
      cases e
      exact ⟨fun _ => none, fun _ => .inl rfl, .inr ⟨_, vs.toArray, _, hk, rfl, rfl, rfl, by rw [List.size_toArray, hi.length]; exact hl, by simpa using rv⟩, (fun b u z => absurd (show (none : Option HO) = some u from z) (by simp)), (fun b u z => absurd (show (none : Option HO) = some u from z) (by simp))⟩
    | none =>
      refine ⟨upd (fun _ => none) a (.frz { cls := .type "list", data := .seq vs.toArray } (.lst (ns.map V.int))), fun b => ?_, .inl (.inr ⟨_, upd_same⟩), fun b u z => ?_, fun b u z => ?_⟩
      · by_cases hb : b = a
        · exact .inr ⟨_, _, by rw [hb]; exact upd_same⟩
        · exact .inl (upd_ne hb)
      · by_cases hb : b = a
        · subst hb
          rw [upd_same] at z
          cases z
          exact ⟨ha, by rw [List.length_map]; exact hl, vs, _, rv, ha⟩
        · rw [upd_ne hb] at z
          cases z
      · by_cases hb : b = a
        · exact ⟨hb, rfl⟩
        · rw [upd_ne hb] at z
          cases z
  have nonA : ∀ {b : Addr} {o : Obj}, s₁.heap.get? b = some o → (∀ (xs : Array Value) (n : Nat), o.data ≠ .seq xs n) → H b = none := fun {b o} e d => by
    cases q : H b with
    | none => rfl
    | some u =>
      rw [(hA b u q).1, ha] at e
      cases e
      exact absurd rfl (d _ _)
  have ns' : ∀ {b : Addr} {m : Str → Option Value}, s₁.heap.Ns b m → (hidT s₁.heap H).Ns b m := fun {b m} ⟨o, es, ep, e, d, r⟩ =>
    ⟨o, es, ep, hidT_get e (nonA e fun xs n z => by rw [d] at z; cases z), d, r⟩
  have hKb : K.In (hidT s₁.heap H) := fun b o e => hidT_get (KX b o e) (by
    cases q : H b with
    | none => rfl
    | some u =>
      obtain ⟨rfl, z⟩ := hA b u q
      rw [z] at e
      cases e)
  obtain ⟨mc, l1, l2⟩ := hlim
  have e0 : Env0 P w K mg (hidT s₁.heap H) callerA [] s₁ H :=
    ⟨rfl, ⟨hKb, ns' hns, ⟨mb, ns' hb, hbb⟩, mc, ns' l1, l2⟩, fun b o e => of_hidT e, Nat.le_of_eq (hidT_size _ _), trivial, (fun b z => absurd (show b ∈ ([] : List Addr) from z) (by simp)), hok, AllBare.of_eq hg⟩
  refine codeAny_mono (F _ hKb (ns' hns) callerA [] s₁ H [.ref a] [] [.ref a] [] _ _ hr rfl e0 (.cons rfl .nil) .nil rfl (hsp H hO hS)) fun r s' h => ?_
  cases r with
  | error e =>
    obtain ⟨_, _, _, _, _, _, _, _, _, _, _, _, z⟩ := h
    exact z.elim
  | ok fl =>
    cases fl with
    | next => exact h.elim
    | brk => exact h.elim
    | cont => exact h.elim
    | ret u =>
      obtain ⟨v, H', os, bare, un, hok', r', q⟩ := h
      obtain rfl : v = .bl true := q
      obtain rfl : u = Value.bool true := r'
      refine ⟨rfl, OldK.of_keep fun b o e => ?_, os, bare⟩
      cases q : H b with
      | none => exact un.keep b o e q (by intro z; cases z) (by simp)
      | some u =>
        rcases hO b with z | ⟨ob, xs, z⟩
        · rw [q] at z
          cases z
        · obtain ⟨e1, _⟩ := hok b _ z
          obtain ⟨e2, _⟩ := hok' b _ (un.frzs b ob _ z)
          rw [e] at e1
          cases e1
          exact e2
theorem walk_ofG {l : OpenLaw} {n k : Nat} {q : Program} {loose : List Str} {XP : (Str → Option Value) → Heap → Prop} {YP : World → Heap → Prop} {d : DefRec} {K : Params → Frag} {sp : World → Sp}
    (hn : l.most = some n) (hn2 : n ≤ sizeLine) (hdf : d.params.defaults = []) (hr : Room k callerA)
    (hY : ∀ (w : World) (h : Heap), YP w h → (K w.params).In h)
    (F : ∀ (w : World) (mg : Str → Option Value) (fa : Addr) (h : Heap), (K w.params).In h → h.Ns mainGlobals mg → mg d.name = some (.ref fa) →
      ∀ base : Heap, (K w.params).In base → base.Ns mainGlobals mg → CallG l.prog w (K w.params) mg base k fa [] (sp w))
    (hsp : ∀ (w : World) (H : Hp) (a : Addr) (ns : List Int), ns.length ≤ n → (∀ z ∈ ns, Builtin.Int.intBits z ≤ 1048576) → Only H → SqL (K w.params) H a (ns.map V.int) → sp w [.ref a] H (fun v _ => v = .bl true) fun _ _ _ => False) :
    WalkO q loose XP YP l.row.toRowW d [] (fun f vs => PySem.call f vs) :=
  Att.attach_callB hn hdf fun w _ s₁ mg mb fa o pm cd doc a vs ns G Y ho hd hcd hmg hobj hints hlen hbits hg =>
    lawG (hY w _ Y) G.T.g G.T.b G.T.builtins G.T.nolimit hg hobj hints (Nat.le_trans hlen hn2) hr (F w mg fa _ (hY w _ Y) G.T.g hmg) fun H hO hS => hsp w H a ns hlen hbits hO hS

/-! ### values by rule -/
section
variable {X : Cx}
/-- // by a divisor of either sign -/
def CDivS (_ j : Int) : Prop := j ≠ 0 ∧ j.natAbs.log2 < 9000
theorem op_fdivS : OpR X (binaryOp .FloorDiv) (rI CDivS fun i j => .int (i.fdiv j)) := opI fun i j _ _ _ _ _ hc q =>
  floordiv_int hc.1 q (.inl (PyProof.noPylong_of_log2 hc.2))
/-- repr of data -/
def rReprD (K : Frag) : List V → Hp → VK → Prop := fun xs H Q => ∃ x d, xs = [x] ∧ Dp K H x d ∧ d.showable = true ∧ d.hasDict = false ∧ d.depth ≤ 100 ∧ d.shown.length ≤ sizeLine ∧ Q (.str d.shown) H
theorem call_reprD {k : Nat} (hr : Room k X.A) (hg : X.A.guards = some []) : CallR X (.builtin "repr") (rReprD X.K) := fun pins s σ H xs us Q I r ⟨x, d, ex, hd, hs, hnd, hdp, hsz, q⟩ => by
  subst ex
  obtain ⟨u, rfl, ru⟩ := vals1 r
  obtain ⟨as, rd⟩ := Dp.reads I d x u hd ru
  have hu : X.A.units + (d.depth + 1) < cLine := by have := hr.un; omega
  cases hd with
  | non =>
    cases ru
    exact PySem.P.repr_of_none ⟨.str "None", H, I.tok _, ⟨_, rfl⟩, q⟩
  | bl b =>
    cases ru
    exact PySem.P.repr_of_bool ⟨.str (if b then "True" else "False"), H, I.tok _, ⟨_, rfl⟩, q⟩
  | int i =>
    obtain ⟨t, rfl⟩ := ru
    exact PySem.P.repr_of_int (by simpa [PyData.showable] using hs) ⟨.str (toString i), H, I.tok _, ⟨_, rfl⟩, q⟩
  | str y =>
    obtain ⟨t, rfl⟩ := ru
    exact PySem.P.repr_of_str ⟨.str (reprText y), H, I.tok _, ⟨_, rfl⟩, q⟩ hsz
  | lst _ _ =>
    cases ru
    exact repr_of_reads' rd hs (PyData.noDict_hsm hnd) hg hu (fun _ _ e => e) (fun h' u tk hk => ⟨.str _, H, I.kept hk, ⟨_, rfl⟩, q⟩) hsz
  | tup _ _ =>
    cases ru
    exact repr_of_reads' rd hs (PyData.noDict_hsm hnd) hg hu (fun _ _ e => e) (fun h' u tk hk => ⟨.str _, H, I.kept hk, ⟨_, rfl⟩, q⟩) hsz
end
end Rm
/-! Plain mathematics of numbers in lowest terms. -/
namespace Rm
/-- above / below in lowest terms, the sign above -/
def dv (a b : Int) : Int := if b < 0 then -(Int.gcd a b : Int) else (Int.gcd a b : Int)
def red (a b : Int) : Int × Int := (a.fdiv (dv a b), b.fdiv (dv a b))
def IsNum (p q : Int) : Prop := 1 ≤ q ∧ Int.gcd p q = 1
instance (p q : Int) : Decidable (IsNum p q) := by unfold IsNum; infer_instance
theorem gcd_pos' {a b : Int} (hb : b ≠ 0) : 0 < Int.gcd a b := Int.gcd_pos_of_ne_zero_right a hb
theorem dv_ne {a b : Int} (hb : b ≠ 0) : dv a b ≠ 0 := by
  have := gcd_pos' (a := a) hb
  unfold dv
  split <;> omega
theorem dv_abs (a b : Int) : (dv a b).natAbs = Int.gcd a b := by
  unfold dv
  split <;> omega
theorem dv_l (a b : Int) : dv a b ∣ a := by
  unfold dv
  split
  · exact Int.neg_dvd.mpr (Int.gcd_dvd_left ..)
  · exact Int.gcd_dvd_left ..
theorem dv_r (a b : Int) : dv a b ∣ b := by
  unfold dv
  split
  · exact Int.neg_dvd.mpr (Int.gcd_dvd_right ..)
  · exact Int.gcd_dvd_right ..
theorem fdiv_of_dvd {a d : Int} (h : d ∣ a) (hd : d ≠ 0) : a.fdiv d * d = a := by
  obtain ⟨k, rfl⟩ := h
  rw [Int.mul_fdiv_cancel_left _ hd, Int.mul_comm]
theorem red_l {a b : Int} (hb : b ≠ 0) : (red a b).1 * dv a b = a := fdiv_of_dvd (dv_l a b) (dv_ne hb)
theorem red_r {a b : Int} (hb : b ≠ 0) : (red a b).2 * dv a b = b := fdiv_of_dvd (dv_r a b) (dv_ne hb)
theorem red_pos {a b : Int} (hb : b ≠ 0) : 1 ≤ (red a b).2 := by
  have h1 := red_r (a := a) hb
  have h2 := gcd_pos' (a := a) hb
  unfold dv at h1
  split at h1
  · rename_i h
    have h3 : (red a b).2 * (Int.gcd a b : Int) = -b := by rw [Int.mul_neg] at h1; omega
    refine Int.not_lt.mp fun h4 => ?_
    have : (red a b).2 * (Int.gcd a b : Int) ≤ 0 := Int.mul_nonpos_of_nonpos_of_nonneg (by omega) (by omega)
    omega
  · rename_i h
    refine Int.not_lt.mp fun h4 => ?_
    have : (red a b).2 * (Int.gcd a b : Int) ≤ 0 := Int.mul_nonpos_of_nonpos_of_nonneg (by omega) (by omega)
    omega
theorem red_cross {a b : Int} (hb : b ≠ 0) : (red a b).1 * b = a * (red a b).2 := by
  have h1 := red_l (a := a) hb
  have h2 := red_r (a := a) hb
  generalize (red a b).1 = p at *
  generalize (red a b).2 = q at *
  generalize dv a b = d at *
  subst h1
  rw [← h2]
  rw [Int.mul_assoc, Int.mul_comm d q]
theorem red_gcd {a b : Int} (hb : b ≠ 0) : Int.gcd (red a b).1 (red a b).2 = 1 := by
  have h1 := red_l (a := a) hb
  have h2 := red_r (a := a) hb
  have h3 := gcd_pos' (a := a) hb
  have h4 : Int.gcd ((red a b).1 * dv a b) ((red a b).2 * dv a b) = Int.gcd (red a b).1 (red a b).2 * (dv a b).natAbs := Int.gcd_mul_right ..
  rw [h1, h2, dv_abs] at h4
  have h5 : Int.gcd (red a b).1 (red a b).2 * Int.gcd a b = 1 * Int.gcd a b := by omega
  exact Nat.eq_of_mul_eq_mul_right h3 h5
theorem red_num {a b : Int} (hb : b ≠ 0) : IsNum (red a b).1 (red a b).2 := ⟨red_pos hb, red_gcd hb⟩
theorem red_le1 {a b : Int} (hb : b ≠ 0) : (red a b).1.natAbs ≤ a.natAbs := by
  have h1 := congrArg Int.natAbs (red_l (a := a) hb)
  rw [Int.natAbs_mul, dv_abs] at h1
  have h3 := gcd_pos' (a := a) hb
  rw [← h1]
  exact Nat.le_mul_of_pos_right _ h3
theorem red_le2 {a b : Int} (hb : b ≠ 0) : (red a b).2.natAbs ≤ b.natAbs := by
  have h1 := congrArg Int.natAbs (red_r (a := a) hb)
  rw [Int.natAbs_mul, dv_abs] at h1
  have h3 := gcd_pos' (a := a) hb
  rw [← h1]
  exact Nat.le_mul_of_pos_right _ h3
/-- two numbers in lowest terms with the same value are the same -/
theorem num_ext {p q r s : Int} (h1 : IsNum p q) (h2 : IsNum r s) (h : p * s = r * q) : p = r ∧ q = s := by
  have e1 : q.natAbs ∣ s.natAbs := by
    have : q.natAbs ∣ p.natAbs * s.natAbs := by
      rw [← Int.natAbs_mul, h, Int.natAbs_mul]
      exact Nat.dvd_mul_left _ _
    exact Nat.Coprime.dvd_of_dvd_mul_left (by have := h1.2; unfold Int.gcd at this; exact Nat.Coprime.symm this) this
  have e2 : s.natAbs ∣ q.natAbs := by
    have : s.natAbs ∣ r.natAbs * q.natAbs := by
      rw [← Int.natAbs_mul, ← h, Int.natAbs_mul]
      exact Nat.dvd_mul_left _ _
    exact Nat.Coprime.dvd_of_dvd_mul_left (by have := h2.2; unfold Int.gcd at this; exact Nat.Coprime.symm this) this
  have e3 : q.natAbs = s.natAbs := Nat.dvd_antisymm e1 e2
  have e4 : q = s := by have := h1.1; have := h2.1; omega
  subst e4
  refine ⟨?_, rfl⟩
  exact Int.eq_of_mul_eq_mul_right (by have := h1.1; omega) h
theorem red_same {p q : Int} (h : IsNum p q) : red p q = (p, q) := by
  have hq : q ≠ 0 := by have := h.1; omega
  obtain ⟨e1, e2⟩ := num_ext (red_num (a := p) hq) h (red_cross hq)
  exact Prod.ext e1 e2
/-- a result is known by its cross product -/
theorem red_eq {a b p q : Int} (hb : b ≠ 0) (h : IsNum p q) (e : a * q = p * b) : red a b = (p, q) := by
  have h1 := red_cross (a := a) hb
  have h2 := red_num (a := a) hb
  have : (red a b).1 * q = p * (red a b).2 := by
    apply Int.eq_of_mul_eq_mul_right hb
    calc (red a b).1 * q * b = (red a b).1 * b * q := by rw [Int.mul_right_comm]
      _ = a * (red a b).2 * q := by rw [h1]
      _ = a * q * (red a b).2 := by rw [Int.mul_right_comm]
      _ = p * b * (red a b).2 := by rw [e]
      _ = p * (red a b).2 * b := by rw [Int.mul_right_comm]
  obtain ⟨e1, e2⟩ := num_ext h2 h this
  exact Prod.ext e1 e2
theorem gcd_step {x y : Int} (hx : 0 ≤ x) (hy : 0 < y) : Int.gcd y (x % y) = Int.gcd x y := by
  unfold Int.gcd
  rw [Int.natAbs_emod_of_nonneg hx, Nat.gcd_comm, ← Nat.gcd_rec, Nat.gcd_comm]
end Rm
/-! Data in the abstract heap: what kind it is, how it is carried over, how long its text is; rules by data. -/
namespace Rm
open PySem PySem.W PySem.Calls PyProof.Rows PySem.Spec L2
/-- all that is tracked stays, but at d -/
def Exb (d : Addr) (H H' : Hp) : Prop := ∀ a o, a ≠ d → H a = some o → H' a = some o
abbrev Ex := Evl.Ex
theorem Exb.refl {d : Addr} {H : Hp} : Exb d H H := fun _ _ _ e => e
theorem Exb.of {d : Addr} {H H' : Hp} (e : Ex H H') : Exb d H H' := fun a o _ z => e a o z
theorem Exb.trans {d : Addr} {H H1 H2 : Hp} (a : Exb d H H1) (b : Exb d H1 H2) : Exb d H H2 := fun x o n e => b x o n (a x o n e)
theorem Ex.upd {H : Hp} {p : Addr} {o : HO} (h : H p = none) : Ex H (upd H p o) := Evl.Ex.new h
/-- what carries data over -/
structure Car (H H' : Hp) : Prop where
  lst : ∀ a xs, Rd H a (.lst xs) → Rd H' a (.lst xs)
  tup : ∀ a xs, Rd H a (.tup xs) → Rd H' a (.tup xs)
theorem Car.ex {H H' : Hp} (e : Ex H H') : Car H H' := ⟨fun _ _ r => Evl.ex_rd e r, fun _ _ r => Evl.ex_rd e r⟩
theorem Car.exb {d : Addr} {kvs : List (Key × V)} {H H' : Hp} (hd : H d = some (.dK kvs)) (e : Exb d H H') : Car H H' := by
  have key : ∀ (a : Addr) (u : HO), (∀ k, u ≠ .dK k) → Rd H a u → Rd H' a u := fun a u hu r => by
    rcases r with r | ⟨o, r⟩
    · exact .inl (e a _ (fun z => by rw [z, hd] at r; cases r; exact hu _ rfl) r)
    · exact .inr ⟨o, e a _ (fun z => by rw [z, hd] at r; cases r) r⟩
  exact ⟨fun a xs r => key a _ (by intro k z; cases z) r, fun a xs r => key a _ (by intro k z; cases z) r⟩
theorem Car.l {K : Frag} {H H' : Hp} {a : Addr} {xs : List V} (c : Car H H') (h : SqL K H a xs) : SqL K H' a xs := h.imp (c.lst a xs) id
theorem Car.t {K : Frag} {H H' : Hp} {a : Addr} {xs : List V} (c : Car H H') (h : SqT K H a xs) : SqT K H' a xs := h.imp (c.tup a xs) id
theorem Car.trans {H H1 H2 : Hp} (a : Car H H1) (b : Car H1 H2) : Car H H2 := ⟨fun x xs r => b.lst x xs (a.lst x xs r), fun x xs r => b.tup x xs (a.tup x xs r)⟩
theorem Car.refl {H : Hp} : Car H H := ⟨fun _ _ r => r, fun _ _ r => r⟩
mutual
theorem Car.d {K : Frag} {H H' : Hp} (c : Car H H') : ∀ {d : PyData} {v : V}, Dp K H v d → Dp K H' v d
  | .none, _, h => by cases h; exact .non
  | .bool b, _, h => by cases h; exact .bl b
  | .int i, _, h => by cases h; exact .int i
  | .str x, _, h => by cases h; exact .str x
  | .list ds, _, h => by cases h with | lst a b => exact .lst (c.l a) (c.ds b)
  | .tuple ds, _, h => by cases h with | tup a b => exact .tup (c.t a) (c.ds b)
  | .dict _, _, h => by cases h
theorem Car.ds {K : Frag} {H H' : Hp} (c : Car H H') : ∀ {ds : List PyData} {vs : List V}, DpAll K H vs ds → DpAll K H' vs ds
  | [], _, h => by cases h; exact .nil
  | d :: ds, _, h => by cases h with | cons a b => exact .cons (c.d a) (c.ds b)
end
/-- the kind of data -/
def tyOf : PyData → String
  | .none => "NoneType" | .bool _ => "bool" | .int _ => "int" | .str _ => "str" | .list _ => "list" | .tuple _ => "tuple" | .dict _ => "dict"
theorem Dp.ty {K : Frag} {H : Hp} {v : V} {d : PyData} (h : Dp K H v d) : TyX K H v (.type (tyOf d)) := by
  cases h with
  | non => exact .base .non
  | bl b => exact .base (.bl b)
  | int i => exact .base (.int i)
  | str x => exact .base (.str x)
  | lst a _ =>
    rcases a with (a | ⟨o, a⟩) | ⟨o, its, n, e, c, _⟩
    · exact .base (.lst a)
    · exact .base (.frz a)
    · exact .kList e c
  | tup a _ =>
    rcases a with (a | ⟨o, a⟩) | ⟨o, its, n, e, c, _⟩
    · exact .base (.tup a)
    · exact .fTuple a
    · exact .kTuple e c
/-- isinstance(x, T) of data by a built-in class -/
def rIsD (K : Frag) : List V → Hp → VK → Prop := fun xs H Q => ∃ (x : V) (n : String) (d : PyData) (b : Bool), xs = [x, .ty n] ∧ Dp K H x d ∧ kitB (tyOf d) n = some b ∧ Q (.bl b) H
theorem call_isD {X : Cx} : CallR X (.builtin "isinstance") (rIsD X.K) := fun pins s σ H xs us Q I r ⟨x, n, d, b, ex, hd, hk, q⟩ =>
  call_isi pins s σ H xs us Q I r ⟨x, .ty n, .type (tyOf d), .type n, b, ex, .ty n, Dp.ty hd, kit_ty hk, q⟩
/-- a pair of ints stands at x -/
def NumAt (K : Frag) (H : Hp) (x : V) (p q : Int) : Prop := ∃ a, x = .ref a ∧ SqT K H a [.int p, .int q]
theorem NumAt.d {K : Frag} {H : Hp} {x : V} {p q : Int} (h : NumAt K H x p q) : Dp K H x (.tuple [.int p, .int q]) := by
  obtain ⟨a, rfl, h⟩ := h
  exact .tup h (.cons (.int p) (.cons (.int q) .nil))
theorem NumAt.of {K : Frag} {H : Hp} {x : V} {p q : Int} (h : Dp K H x (.tuple [.int p, .int q])) : NumAt K H x p q := by
  cases h with
  | tup a b =>
    cases b with
    | cons c d =>
      cases c
      cases d with
      | cons e f =>
        cases e
        cases f
        exact ⟨_, rfl, a⟩
theorem NumAt.c {K : Frag} {H H' : Hp} {x : V} {p q : Int} (h : NumAt K H x p q) (c : Car H H') : NumAt K H' x p q := by
  obtain ⟨a, e, h⟩ := h
  exact ⟨a, e, c.t h⟩
theorem NumAt.new {K : Frag} {H : Hp} {a : Addr} {p q : Int} (h : H a = some (.tup [.int p, .int q])) : NumAt K H (.ref a) p q := ⟨a, rfl, SqT.of h⟩
/-- a pair is handed back -/
def RNum (H : Hp) (Q : VK) (r : Int × Int) : Prop := ∀ p H', H p = none → Ex H H' → H' p = some (.tup [.int r.1, .int r.2]) → Q (.ref p) H'
/-! ### lengths of texts -/
mutual
def wt : PyData → Nat
  | .none => 4
  | .bool _ => 5
  | .int _ => 1921
  | .str x => (reprText x).length
  | .list xs => wtAll xs + 2
  | .tuple xs => wtAll xs + 3
  | .dict _ => 0
def wtAll : List PyData → Nat
  | [] => 0
  | x :: xs => wt x + 2 + wtAll xs
end
def lens (ts : List Str) : Nat := (ts.map fun t => t.length + 2).sum
theorem textFrom_le : ∀ (ts : List Str) (k : Nat) (acc : Str), (textFrom k acc ts).length ≤ acc.length + lens ts
  | [], k, acc => by simp [textFrom, lens]
  | t :: r, k, acc => by
    have h := textFrom_le r (k + 1) (acc ++ (if k > 0 then ", " else "" : String) ++ t)
    have e : textFrom k acc (t :: r) = textFrom (k + 1) (acc ++ (if k > 0 then ", " else "" : String) ++ t) r := rfl
    rw [e]
    have e2 : (acc ++ (if k > 0 then ", " else "" : String) ++ t : Str).length ≤ acc.length + 2 + t.length := by
      rw [Str.length_append, Str.length_append]
      have : (Str.ofString (if k > 0 then ", " else "")).length ≤ 2 := by split <;> decide
      omega
    have e3 : lens (t :: r) = t.length + 2 + lens r := by simp [lens]
    omega
theorem listText_le (ts : List Str) : (listText ts).length ≤ lens ts + 2 := by
  have h := textFrom_le ts 0 "["
  unfold listText
  rw [Str.length_append]
  have e1 : (Str.ofString "[").length = 1 := by decide
  have e2 : (Str.ofString "]").length = 1 := by decide
  omega
theorem join_le : ∀ ts : List Str, (Str.join ", " ts).length ≤ lens ts
  | [] => by decide
  | [x] => by show x.length ≤ _; simp [lens]
  | x :: y :: r => by
    have h := join_le (y :: r)
    show (x ++ Str.ofString ", " ++ Str.join ", " (y :: r)).length ≤ _
    rw [Str.length_append, Str.length_append]
    have e1 : (Str.ofString ", ").length = 2 := by decide
    have e3 : lens (x :: y :: r) = x.length + 2 + lens (y :: r) := by simp [lens]
    omega
theorem tupleText_le (ts : List Str) : (tupleText ts).length ≤ lens ts + 3 := by
  have h := join_le ts
  unfold tupleText
  rw [Str.length_append, Str.length_append]
  have e1 : (Str.ofString "(").length = 1 := by decide
  have e2 : (Str.ofString (if ts.length == 1 then ",)" else ")")).length ≤ 2 := by split <;> decide
  omega
mutual
theorem shown_le : ∀ d : PyData, d.showable = true → d.hasDict = false → d.shown.length ≤ wt d
  | .none, _, _ => by simp only [PyData.shown, wt]; decide
  | .bool b, _, _ => by simp only [PyData.shown, wt]; cases b <;> decide
  | .int i, h, _ => by
    simp only [PyData.shown, wt]
    exact int_text_len_1921 (by simpa [PyData.showable] using h)
  | .str x, _, _ => by simp only [PyData.shown, wt]; exact Nat.le_refl _
  | .list xs, h, hd => by
    simp only [PyData.shown, wt]
    have := shownAll_le xs (by simpa [PyData.showable] using h) (by simpa [PyData.hasDict] using hd)
    exact Nat.le_trans (listText_le _) (by omega)
  | .tuple xs, h, hd => by
    simp only [PyData.shown, wt]
    have := shownAll_le xs (by simpa [PyData.showable] using h) (by simpa [PyData.hasDict] using hd)
    exact Nat.le_trans (tupleText_le _) (by omega)
  | .dict _, _, hd => by simp [PyData.hasDict] at hd
theorem shownAll_le : ∀ xs : List PyData, PyData.showableAll xs = true → PyData.hasDictAll xs = false → lens (PyData.shownAll xs) ≤ wtAll xs
  | [], _, _ => by simp [PyData.shownAll, lens, wtAll]
  | x :: xs, h, hd => by
    have h' : x.showable = true ∧ PyData.showableAll xs = true := by simpa [PyData.showableAll] using h
    have hd' : x.hasDict = false ∧ PyData.hasDictAll xs = false := by simpa [PyData.hasDictAll] using hd
    have h1 := shown_le x h'.1 hd'.1
    have h2 := shownAll_le xs h'.2 hd'.2
    have e : lens (PyData.shownAll (x :: xs)) = x.shown.length + 2 + lens (PyData.shownAll xs) := by simp [lens, PyData.shownAll]
    simp only [wtAll]
    omega
end
end Rm
/-! Promises of the program's defs about numbers. -/
namespace Rm
open PySem PySem.W PySem.Calls PyProof.Rows PySem.Spec L2
def sp1 (f : V → Hp → VK → XK → Prop) : Sp := fun vs H Q E => ∃ a, vs = [a] ∧ f a H Q E
def sp2 (f : V → V → Hp → VK → XK → Prop) : Sp := fun vs H Q E => ∃ a b, vs = [a, b] ∧ f a b H Q E
def sp3 (f : V → V → V → Hp → VK → XK → Prop) : Sp := fun vs H Q E => ∃ a b c, vs = [a, b, c] ∧ f a b c H Q E
def sp4 (f : V → V → V → V → Hp → VK → XK → Prop) : Sp := fun vs H Q E => ∃ a b c d, vs = [a, b, c, d] ∧ f a b c d H Q E
theorem sp1_len {f} {x : Str} (vs : List V) (H : Hp) (Q : VK) (E : XK) (h : sp1 f vs H Q E) : vs.length = [x].length := by obtain ⟨_, rfl, _⟩ := h; rfl
theorem sp2_len {f} {x y : Str} (vs : List V) (H : Hp) (Q : VK) (E : XK) (h : sp2 f vs H Q E) : vs.length = [x, y].length := by obtain ⟨_, _, rfl, _⟩ := h; rfl
theorem sp3_len {f} {x y z : Str} (vs : List V) (H : Hp) (Q : VK) (E : XK) (h : sp3 f vs H Q E) : vs.length = [x, y, z].length := by obtain ⟨_, _, _, rfl, _⟩ := h; rfl
theorem sp4_len {f} {x y z u : Str} (vs : List V) (H : Hp) (Q : VK) (E : XK) (h : sp4 f vs H Q E) : vs.length = [x, y, z, u].length := by obtain ⟨_, _, _, _, rfl, _⟩ := h; rfl
/-- sizes: below two to the n -/
def Bd (n : Nat) (i : Int) : Prop := i.natAbs < 2 ^ n
theorem Bd.mono {m n : Nat} {i : Int} (h : Bd m i) (hm : m ≤ n) : Bd n i := Nat.lt_of_lt_of_le h (Nat.pow_le_pow_right (by decide) hm)
theorem Bd.mul {m n : Nat} {i j : Int} (h : Bd m i) (k : Bd n j) : Bd (m + n) (i * j) := by
  unfold Bd at *
  rw [Int.natAbs_mul, Nat.pow_add]
  exact Nat.mul_lt_mul'' h k
theorem Bd.add {m : Nat} {i j : Int} (h : Bd m i) (k : Bd m j) : Bd (m + 1) (i + j) := by
  unfold Bd at *
  have : (i + j).natAbs ≤ i.natAbs + j.natAbs := Int.natAbs_add_le ..
  rw [Nat.pow_succ]
  omega
theorem Bd.neg {m : Nat} {i : Int} (h : Bd m i) : Bd m (-i) := by unfold Bd at *; rwa [Int.natAbs_neg]
theorem Bd.sub {m : Nat} {i j : Int} (h : Bd m i) (k : Bd m j) : Bd (m + 1) (i - j) := by rw [Int.sub_eq_add_neg]; exact h.add k.neg
theorem Bd.log {n : Nat} {i : Int} (h : Bd n i) (hn : 0 < n) : i.natAbs.log2 < n := PySem.Flt.log2_lt_of hn h
theorem Bd.mulW {m n : Nat} {i j : Int} (h : Bd m i) (k : Bd n j) (hm : 0 < m := by decide) (hn : 0 < n := by decide) (hs : m + n ≤ 1000000 := by decide) : CMulW i j := wide_mul h k hm hn hs
theorem Bd.fdiv {i j : Int} (h : Bd 9000 j) (h0 : j ≠ 0) : CDivS i j := ⟨h0, h.log (by decide)⟩
theorem Bd.red1 {n : Nat} {a b : Int} (h : Bd n a) (hb : b ≠ 0) : Bd n (red a b).1 := Nat.lt_of_le_of_lt (red_le1 hb) h
theorem Bd.red2 {n : Nat} {a b : Int} (h : Bd n b) (hb : b ≠ 0) : Bd n (red a b).2 := Nat.lt_of_le_of_lt (red_le2 hb) h

def isIntD : PyData → Bool
  | .int _ => true
  | _ => false
def isNumD : PyData → Bool
  | .tuple [.int a, .int b] => decide (IsNum a b)
  | _ => false
def spIsInt (K : Frag) : Sp := sp1 fun x H Q _ => ∃ d, Dp K H x d ∧ Q (.bl (isIntD d)) H
def spGcd : Sp := sp2 fun x y H Q _ => ∃ a b, x = .int a ∧ y = .int b ∧ Q (.int (Int.gcd a b : Nat)) H
def spRed : Sp := sp2 fun x y H Q _ => ∃ a b, x = .int a ∧ y = .int b ∧ b ≠ 0 ∧ Bd 9000 b ∧ RNum H Q (red a b)
def spIsNum (K : Frag) : Sp := sp1 fun x H Q _ => ∃ d, Dp K H x d ∧ ∀ H', Ex H H' → Q (.bl (isNumD d)) H'
/-- the first that is no number -/
def fb : List V → List PyData → Option V
  | x :: xs, d :: ds => if isNumD d = true then fb xs ds else some x
  | _, _ => none
/-- an error of the class C with the one field f = x -/
def RErr (H : Hp) (E : XK) (C : Addr) (f : Str) (x : V) : Prop := ∀ d H', Ex H H' → H' d = some (.xd [(f, x)]) → E (.ref C) (some d) H'
def spCheckNums (K : Frag) (C : Addr) : Sp := fun vs H Q E => ∃ ds, vs.length ≤ 1000 ∧ DpAll K H vs ds ∧ match fb vs ds with
  | none => ∀ H', Ex H H' → Q .non H'
  | some x => RErr H E C "thing" x
def spCheckNums1 (K : Frag) (C : Addr) : Sp := sp1 fun x H Q E => ∃ p vs, x = .ref p ∧ SqT K H p vs ∧ spCheckNums K C vs H Q E
def spNumber (K : Frag) (C : Addr) : Sp := sp2 fun x y H Q E => ∃ dx dy, Dp K H x dx ∧ Dp K H y dy ∧
  ((∀ a b, dx = .int a → dy = .int b → b ≠ 0 → Bd 9000 b ∧ RNum H Q (red a b)) ∧
   ((∀ a b, dx = .int a → dy = .int b → b = 0) → ∀ t H1, H t = none → H1 = upd H t (.tup [x, y]) → RErr H1 E C "thing" (.ref t)))
/-- two numbers in, an operation by parts -/
def spNum2 (K : Frag) (f : Int → Int → Int → Int → Hp → VK → XK → Prop) : Sp := sp2 fun x y H Q E => ∃ p q r s, NumAt K H x p q ∧ NumAt K H y r s ∧ f p q r s H Q E
def spPlus (K : Frag) : Sp := spNum2 K fun p q r s H Q _ => Bd 4000 p ∧ Bd 4000 q ∧ Bd 4000 r ∧ Bd 4000 s ∧ q * s ≠ 0 ∧ RNum H Q (red (p * s + r * q) (q * s))
def spMinus (K : Frag) : Sp := spNum2 K fun p q r s H Q _ => Bd 4000 p ∧ Bd 4000 q ∧ Bd 4000 r ∧ Bd 4000 s ∧ q * s ≠ 0 ∧ RNum H Q (red (p * s - r * q) (q * s))
def spTimes (K : Frag) : Sp := spNum2 K fun p q r s H Q _ => Bd 4000 p ∧ Bd 4000 q ∧ Bd 4000 r ∧ Bd 4000 s ∧ q * s ≠ 0 ∧ RNum H Q (red (p * r) (q * s))
def spOver (K : Frag) : Sp := spNum2 K fun p q r s H Q _ => Bd 4000 p ∧ Bd 4000 q ∧ Bd 4000 r ∧ Bd 4000 s ∧ q * r ≠ 0 ∧ RNum H Q (red (p * s) (q * r))
def spLess (K : Frag) : Sp := spNum2 K fun p q r s H Q _ => Bd 4000 p ∧ Bd 4000 q ∧ Bd 4000 r ∧ Bd 4000 s ∧ Q (.bl (decide (p * s < r * q))) H
/-- any two things in: the first that is no number is refused, else f -/
def spBin (K : Frag) (C : Addr) (f : V → V → Int → Int → Int → Int → Hp → VK → XK → Prop) : Sp := sp2 fun x y H Q E => ∃ dx dy, Dp K H x dx ∧ Dp K H y dy ∧
  (∀ z, fb [x, y] [dx, dy] = some z → RErr H E C "thing" z) ∧
  (∀ p q r s, dx = .tuple [.int p, .int q] → dy = .tuple [.int r, .int s] → IsNum p q → IsNum r s → Bd 4000 p ∧ Bd 4000 q ∧ Bd 4000 r ∧ Bd 4000 s ∧ f x y p q r s H Q E)
def spAdd (K : Frag) (C : Addr) : Sp := spBin K C fun _ _ p q r s H Q _ => RNum H Q (red (p * s + r * q) (q * s))
def spSub (K : Frag) (C : Addr) : Sp := spBin K C fun _ _ p q r s H Q _ => RNum H Q (red (p * s - r * q) (q * s))
def spMul (K : Frag) (C : Addr) : Sp := spBin K C fun _ _ p q r s H Q _ => RNum H Q (red (p * r) (q * s))
def spDiv (K : Frag) (C : Addr) : Sp := spBin K C fun _ y p q r s H Q E => (r = 0 → RErr H E C "thing" y) ∧ (r ≠ 0 → RNum H Q (red (p * s) (q * r)))
def sgn3 (a b : Int) : Int := (if b < a then 1 else 0) - (if a < b then 1 else 0)
def spCmp (K : Frag) (C : Addr) : Sp := spBin K C fun _ _ p q r s H Q _ => ∀ H', Ex H H' → Q (.int (sgn3 (p * s) (r * q))) H'
def spWhole (K : Frag) : Sp := sp1 fun x H Q _ => ∃ p q, NumAt K H x p q ∧ q ≠ 0 ∧ Bd 9000 q ∧ Q (.int (p.fdiv q)) H
def spFloor (K : Frag) (C : Addr) : Sp := sp1 fun x H Q E => ∃ dx, Dp K H x dx ∧ (isNumD dx = false → RErr H E C "thing" x) ∧ (∀ p q, dx = .tuple [.int p, .int q] → IsNum p q → Bd 9000 q ∧ ∀ H', Ex H H' → Q (.int (p.fdiv q)) H')
theorem isNumD_inv {d : PyData} (h : isNumD d = true) : ∃ p q, d = .tuple [.int p, .int q] ∧ IsNum p q := by
  unfold isNumD at h
  split at h
  · exact ⟨_, _, rfl, of_decide_eq_true h⟩
  · cases h
end Rm
namespace Rm
open PySem PySem.W PySem.Calls PyProof.Rows PySem.Spec L2
def isIB : PyData → Bool
  | .int _ => true
  | .bool _ => true
  | _ => false
def isBoolD : PyData → Bool
  | .bool _ => true
  | _ => false
def isTupD : PyData → Bool
  | .tuple _ => true
  | _ => false
def isStrD : PyData → Bool
  | .str _ => true
  | _ => false
theorem kit_int (d : PyData) : kitB (tyOf d) "int" = some (isIB d) := by cases d <;> (simp only [tyOf, isIB]; decide +kernel)
theorem kit_bool (d : PyData) : kitB (tyOf d) "bool" = some (isBoolD d) := by cases d <;> (simp only [tyOf, isBoolD]; decide +kernel)
theorem kit_tuple (d : PyData) : kitB (tyOf d) "tuple" = some (isTupD d) := by cases d <;> (simp only [tyOf, isTupD]; decide +kernel)
theorem kit_str (d : PyData) : kitB (tyOf d) "str" = some (isStrD d) := by cases d <;> (simp only [tyOf, isStrD]; decide +kernel)
theorem DpAll.len {K : Frag} {H : Hp} : ∀ {vs : List V} {ds : List PyData}, DpAll K H vs ds → vs.length = ds.length
  | [], [], .nil => rfl
  | _ :: _, _ :: _, .cons _ t => congrArg (· + 1) (DpAll.len t)
theorem isNumD_tup {ds : List PyData} (h : ds.length ≠ 2) : isNumD (.tuple ds) = false := by
  match ds, h with
  | [], _ => rfl
  | [a], _ => cases a <;> rfl
  | a :: b :: c :: r, _ => cases a <;> (try rfl) <;> cases b <;> rfl
theorem isNumD_1 {a b : PyData} (h : isIntD a = false) : isNumD (.tuple [a, b]) = false := by cases a <;> first | rfl | cases h
theorem isNumD_2 {a b : PyData} (h : isIntD b = false) : isNumD (.tuple [a, b]) = false := by cases a <;> (try rfl) <;> cases b <;> first | rfl | cases h
theorem isIntD_inv {d : PyData} (h : isIntD d = true) : ∃ i, d = .int i := by cases d <;> first | exact ⟨_, rfl⟩ | cases h
theorem iteB {b : Bool} {A B : Prop} (h1 : b = true → A) (h2 : b = false → B) : if b = true then A else B := by
  cases b
  · exact iteF (h2 rfl)
  · exact iteT (h1 rfl)
theorem DpAll.two {K : Frag} {H : Hp} : ∀ {vs : List V} {ds : List PyData}, DpAll K H vs ds → vs.length = 2 → ∃ u v du dv, vs = [u, v] ∧ ds = [du, dv] ∧ Dp K H u du ∧ Dp K H v dv
  | [u, v], _, .cons a (.cons b .nil), _ => ⟨u, v, _, _, rfl, rfl, a, b⟩
theorem fb_drop {K : Frag} {H : Hp} : ∀ {vs : List V} {ds : List PyData} {i : Nat} {x : V}, DpAll K H vs ds → vs[i]? = some x → ∃ d, ds[i]? = some d ∧ Dp K H x d ∧ fb (vs.drop i) (ds.drop i) = (if isNumD d = true then fb (vs.drop (i + 1)) (ds.drop (i + 1)) else some x)
  | v :: vs, d :: ds, 0, x, .cons a b, h => by
    simp at h
    subst h
    exact ⟨d, rfl, a, rfl⟩
  | v :: vs, d :: ds, i + 1, x, .cons a b, h => by
    obtain ⟨d', e1, e2, e3⟩ := fb_drop (i := i) (x := x) b (by simpa using h)
    exact ⟨d', by simpa using e1, e2, by simpa using e3⟩
  | [], [], _, _, .nil, h => by simp at h
end Rm
namespace Rm
open PySem PySem.W PySem.Calls PyProof.Rows PySem.Spec L2
section
variable {P : Program} {w : World} {K : Frag} {mg : Str → Option Value} {base : Heap} {k : Nat} {f C : Addr} {fd : FuncData} {ps : List Str} {spB : Sp}
theorem FunD_okB {x qual : Str} {params : Arguments} {body : List Stmt} {scope : Scope} {dvs : List V} {kws : List (Str × V)} {N : List Str} (F : FunD K x qual params body scope dvs kws f fd) (S : FnScope N ps scope)
    (hbody : ∀ (cdv : Value) (A : Around) (outer : List Env) (s : Shared) (H : Hp) (vs : List V) (Q : VK) (E : XK), Room k (A.deeper (envOfC qual scope s.heap.objs.size f cdv)) → A.guards = some [] → spB vs H Q E →
      ∃ t, PSs (cxOf (L2.CX P w) P w K mg base N qual scope f cdv A outer s H E) body t ∧ t { nx := fun _ H' => Q .non H', rt := Q } (start N vs) H) : FnB P w K mg base (k + 1) f fd ps spB := by
  obtain ⟨oc, od, dV, kV, doc, pm, an, cdv, ct, osl, rfl, lk, hcd, _⟩ := F.ex
  exact fnB_of lk hcd S fun A outer s H vs Q E hr hg hsp => hbody cdv A outer s H vs Q E hr hg hsp
theorem pe_gcc {X : Cx} {x : Str} {v : V} {pos : Pos} (hg : Gl X x) (h : ∃ u, X.mg x = some u ∧ RelV v u) (hd : (x == ("__debug__" : Str)) = false := by decide) : PE X (.Name x pos) (tC v) := by
  obtain ⟨u, hm, r⟩ := h
  exact pe_glob hg hm r hd
variable {H H1 : Hp} {Q : VK} {E : XK} {vs : List V} {x y : V} {dx dy : PyData}
theorem RErr.ex {s : Str} (e : Ex H H1) (h : RErr H E C s x) : RErr H1 E C s x := fun d H' e' hd => h d H' (e.trans e') hd
theorem RNum.ex {r : Int × Int} (e : Ex H H1) (h : RNum H Q r) : RNum H1 Q r := fun p H' hp e' hd => h p H' (Evl.fresh_back e hp) (e.trans e') hd
theorem checkNums_in (h : spCheckNums K C vs H Q E) : vs.length ≤ sizeLine ∧ ∀ p, H p = none → spCheckNums1 K C [.ref p] (upd H p (.tup vs)) Q E := by
  obtain ⟨ds, hl, hd, q⟩ := h
  refine ⟨by rw [sizeLine_eq]; omega, fun p hp => ⟨_, rfl, p, vs, rfl, SqT.of upd_same, ds, hl, (Car.ex (Evl.Ex.new hp)).ds hd, ?_⟩⟩
  cases e : fb vs ds with
  | none =>
    rw [e] at q
    exact fun H' e' => q H' ((Evl.Ex.new hp).trans e')
  | some z =>
    rw [e] at q
    exact RErr.ex (Evl.Ex.new hp) q
theorem fb_none2 (h : fb [x, y] [dx, dy] = none) : isNumD dx = true ∧ isNumD dy = true := by
  simp only [fb] at h
  split at h
  · split at h
    · constructor <;> assumption
    · cases h
  · cases h
theorem fb_none1 (h : fb [x] [dx] = none) : isNumD dx = true := by
  simp only [fb] at h
  split at h
  · assumption
  · cases h
theorem fb_some1 {z : V} (h : fb [x] [dx] = some z) : isNumD dx = false ∧ z = x := by
  simp only [fb] at h
  split at h
  · cases h
  · cases h
    exact ⟨by simp_all, rfl⟩
/-- check_numbers(first, second) ahead of an operation by parts -/
theorem bin_in {Q' : VK} (hx : Dp K H x dx) (hy : Dp K H y dy) (qe : ∀ z, fb [x, y] [dx, dy] = some z → RErr H E C "thing" z)
    (qn : ∀ p q r s, dx = .tuple [.int p, .int q] → dy = .tuple [.int r, .int s] → IsNum p q → IsNum r s → ∀ H', Ex H H' → NumAt K H' x p q → NumAt K H' y r s → Q' .non H') :
    [x, y].length ≤ sizeLine ∧ ∀ p, H p = none → spCheckNums1 K C [.ref p] (upd H p (.tup [x, y])) Q' E := by
  refine checkNums_in ⟨[dx, dy], by show 2 ≤ 1000; decide, .cons hx (.cons hy .nil), ?_⟩
  cases e : fb [x, y] [dx, dy] with
  | some z => exact qe z e
  | none =>
    obtain ⟨h1, h2⟩ := fb_none2 e
    obtain ⟨p, q, rfl, i1⟩ := isNumD_inv h1
    obtain ⟨r, s, rfl, i2⟩ := isNumD_inv h2
    exact fun H' e' => qn p q r s rfl rfl i1 i2 H' e' (NumAt.of ((Car.ex e').d hx)) (NumAt.of ((Car.ex e').d hy))
end
theorem ne0_of {p q r s : Int} (h1 : IsNum p q) (h2 : IsNum r s) : q * s ≠ 0 := by
  have := Int.mul_pos (show (0 : Int) < q from h1.1) (show (0 : Int) < s from h2.1)
  omega
theorem shaped_num (p q : Int) : SeqAt.shaped (.tuple [.int p, .int q]) = true := by
  simp [SeqAt.shaped, PyData.canLay0, PyData.canLayAll0, PyData.depth, PyData.depthAll]
theorem eqv_num (p q r s : Int) : PyData.eqv (.tuple [.int p, .int q]) (.tuple [.int r, .int s]) = (decide (p = r) && decide (q = s)) := by
  simp only [PyData.eqv, PyData.eqvAll, Bool.and_true]
  rfl
end Rm
namespace Rm
open PySem PySem.W PySem.Calls PyProof.Rows PySem.Spec L2
/-- all parameters given by place, whatever the defaults are -/
theorem _root_.L2.FunD.bindsP {K : Frag} {x qual : Str} {params : Arguments} {body : List Stmt} {scope : Scope} {dvs : List V} {kws : List (Str × V)} {f : Addr} {fd : FuncData} {ps : List Str} (F : FunD K x qual params body scope dvs kws f fd)
    (h : ∀ (dV kV doc pm : Value) (an : Option Addr) (cdv ct : Value) (us : List Value), us.length = ps.length → bindArgs (fnOf x qual params body scope dV kV doc pm an cdv ct) ⟨us, []⟩ = pure (ps.zip us)) : Binds K fd ps [] := by
  obtain ⟨oc, od, dV, kV, doc, pm, an, cdv, ct, osl, rfl, _⟩ := F.ex
  exact Binds.all fun us hl => h dV kV doc pm an cdv ct us hl
end Rm
namespace Rm
open PySem PySem.W PySem.Calls PyProof.Rows PySem.Spec L2
/-- a call of a def with defaults, whatever its shape: the defaults' tuple is read -/
theorem _root_.L2.FunD.toB {K : Frag} {x qual : Str} {params : Arguments} {body : List Stmt} {scope : Scope} {dvs : List V} {kws : List (Str × V)} {f : Addr} {fd : FuncData} (F : FunD K x qual params body scope dvs kws f fd) (hd : dvs ≠ []) {args : Args} {binds : List (Str × Value)}
    (h : ∀ (T : Addr) (kV doc pm : Value) (an : Option Addr) (cdv ct : Value) (its : List Value), its.length = dvs.length →
      ∃ k, bindArgs (fnOf x qual params body scope (.ref T) kV doc pm an cdv ct) args = seqItems? (.ref T) >>= k ∧ k (some its.toArray) = pure binds) (s : Shared) (X : K.In s.heap) : BindsTo s fd args binds := by
  obtain ⟨oc, od, dV, kV, doc, pm, an, cdv, ct, osl, rfl, _, _, hD, _⟩ := F.ex
  rcases hD with ⟨e, _⟩ | ⟨_, T, o, its, n, rfl, lT, oT, r⟩
  · exact absurd e hd
  · obtain ⟨k, h1, h2⟩ := h T kV doc pm an cdv ct its r.length.symm
    refine BindsTo.of_looks fun M => ?_
    rw [h1]
    exact looks_items X lT oT (Looks.of_pure h2)
end Rm
namespace Rm
open PySem PySem.W PySem.Calls PyProof.Rows PySem.Spec L2
/-- the arguments in another order -/
def permV (ix : List Nat) (vs : List V) : List V := ix.map fun i => vs.getD i .non
def permU (ix : List Nat) (us : List Value) : List Value := ix.map fun i => us.getD i Value.none
theorem vals_getD : ∀ {vs : List V} {us : List Value} (i : Nat), Vals vs us → RelV (vs.getD i .non) (us.getD i Value.none)
  | [], [], i, .nil => by simp; rfl
  | _ :: _, _ :: _, 0, .cons a _ => by simpa using a
  | v :: vs, u :: us, i + 1, .cons _ b => by simpa using vals_getD i b
theorem vals_perm {vs : List V} {us : List Value} (r : Vals vs us) : ∀ ix : List Nat, Vals (permV ix vs) (permU ix us)
  | [] => .nil
  | i :: ix => .cons (vals_getD i r) (vals_perm r ix)
theorem FnB.perm {P : Program} {w : World} {K : Frag} {mg : Str → Option Value} {base : Heap} {k : Nat} {f : Addr} {fd : FuncData} {ps ks : List Str} {spB : Sp} (F : FnB P w K mg base k f fd ps spB) (ix : List Nat) (m : Nat)
    (hl : ∀ vs H Q E, spB vs H Q E → vs.length = ps.length)
    (hb : ∀ (s : Shared) (us ws : List Value), K.In s.heap → ws.length = ks.length → (us ++ ws).length = m → BindsTo s fd ⟨us, ks.zip ws⟩ (ps.zip (permU ix (us ++ ws)))) :
    CallG P w K mg base k f ks (fun vs H Q E => vs.length = m ∧ spB (permV ix vs) H Q E) := fun A outer s H us ws vs zs Q E hr hgd e0 r1 r2 hw hsp => by
  obtain ⟨hm, hsp⟩ := hsp
  have r0 := r1.append r2
  have r := vals_perm r0 ix
  have len := hl _ _ _ _ hsp
  refine F A outer s H _ Q E (fun vs' H2 => vs' = permV ix (vs ++ zs) ∧ H2 = H) hr hgd e0 (fun A' Ex Q' h => ?_) fun vs' H2 z => by
    obtain ⟨rfl, rfl⟩ := z
    exact hsp
  refine hb s us ws (e0.mod.kin.keeps fun b o e => (e0.bs b o e).1) hw (by rw [← r0.length]; exact hm) _ _ _ _ ?_
  exact h s H _ _ e0 Un.refl rfl (fun _ _ z => z) r len ⟨rfl, rfl⟩
end Rm
/-! The draws of a law: a dict of the cells that are left. -/
namespace Rm
open PySem PySem.W PySem.Calls PyProof.Rows PySem.Spec L2
/-- list + list, whoever laid them -/
def rCatL (K : Frag) : R2 := fun x y H Q => ∃ l b xs zs, x = .ref l ∧ y = .ref b ∧ SqL K H l xs ∧ SqL K H b zs ∧ xs.length + zs.length ≤ sizeLine ∧ ∀ p, H p = none → Q (.ref p) (upd H p (.lst (xs ++ zs)))
theorem op_catL {X : Cx} : OpR X (binaryOp .Add) (rCatL X.K) := by
  intro pins s σ H x y v u Q I rx ry h
  obtain ⟨l, b, xs, zs, rfl, rfl, hH, hB, hz, q⟩ := h
  cases rx
  cases ry
  obtain ⟨its, r, ⟨⟨cls, dd, data, sl⟩, n, ho, hc, _, hd⟩, _⟩ := I.list hH
  obtain ⟨its2, r2, ⟨⟨cls2, dd2, data2, sl2⟩, n2, ho2, hc2, _, hd2⟩, _⟩ := I.list hB
  simp only at hc hd hc2 hd2
  subst hc hd hc2 hd2
  have hsz : its.toArray.size + its2.toArray.size ≤ sizeLine := by
    rw [List.size_toArray, List.size_toArray, ← r.length, ← r2.length]
    exact hz
  refine concat_meets ⟨_, ho, rfl⟩ ⟨_, ho2, rfl⟩ noFill_list_add seq_list_add PySem.F.slot_list_add PySem.F.entry_list_add (PySem.F.args_list_add_2 _ _) (list_addW l b its.toArray its2.toArray n n2 dd dd2 sl sl2 hsz) ⟨ho, ho2, ?_⟩
  have ea : its.toArray ++ its2.toArray = (its ++ its2).toArray := by simp
  rw [ea]
  exact ⟨.ref _, _, I.lnew (t' := s.toks) (r.append r2) (by rw [List.length_append]; exact hz), rfl, q _ I.fresh⟩
def drawD (c : Addr) (a l u : Int) : List (Key × V) := [(.inr "cells", .ref c), (.inr "at", .int a), (.inr "left", .int l), (.inr "used", .int u)]
/-- the draws at d after n of them at most -/
def DrawAt (K : Frag) (H : Hp) (d : Addr) (n : Nat) : Prop := ∃ (c : Addr) (cells : List Int) (a l u : Int), H d = some (.dK (drawD c a l u)) ∧ SqL K H c (cells.map V.int) ∧ cells ≠ [] ∧ cells.length ≤ 1000 ∧ 0 ≤ a ∧ a ≤ n ∧ 0 ≤ u ∧ u ≤ n
section
variable {K : Frag} {H H' : Hp} {d : Addr} {n m : Nat}
theorem DrawAt.mono (h : DrawAt K H d n) (hm : n ≤ m) : DrawAt K H d m := by
  obtain ⟨c, cells, a, l, u, h1, h2, h3, h4, h5, h6, h7, h8⟩ := h
  exact ⟨c, cells, a, l, u, h1, h2, h3, h4, h5, by omega, h7, by omega⟩
theorem DrawAt.ex (h : DrawAt K H d n) (e : Ex H H') : DrawAt K H' d n := by
  obtain ⟨c, cells, a, l, u, h1, h2, h3⟩ := h
  exact ⟨c, cells, a, l, u, e _ _ h1, (Car.ex e).l h2, h3⟩
theorem DrawAt.car (h : DrawAt K H d n) (e : Exb d H H') : Car H H' := by
  obtain ⟨c, cells, a, l, u, h1, _⟩ := h
  exact Car.exb h1 e
end
theorem draw_cells {c : Addr} {a l u : Int} : valV (drawD c a l u) (.inr "cells") = some (.ref c) := by kernel_rfl
theorem draw_at {c : Addr} {a l u : Int} : valV (drawD c a l u) (.inr "at") = some (.int a) := by kernel_rfl
theorem draw_left {c : Addr} {a l u : Int} : valV (drawD c a l u) (.inr "left") = some (.int l) := by kernel_rfl
theorem draw_used {c : Addr} {a l u : Int} : valV (drawD c a l u) (.inr "used") = some (.int u) := by kernel_rfl
theorem put_at {c : Addr} {a l u i : Int} : putK (drawD c a l u) (.inr "at") (.int i) = drawD c i l u := by kernel_rfl
theorem put_left {c : Addr} {a l u i : Int} : putK (drawD c a l u) (.inr "left") (.int i) = drawD c a i u := by kernel_rfl
theorem put_used {c : Addr} {a l u i : Int} : putK (drawD c a l u) (.inr "used") (.int i) = drawD c a l i := by kernel_rfl
section
variable {H : Hp} {d c : Addr} {a l u i : Int}
theorem dget_cells (h : H d = some (.dK (drawD c a l u))) : DGet H d (.str "cells") (some (.ref c)) := draw_cells (c := c) (a := a) (l := l) (u := u) ▸ DGet.k (k := Sum.inr "cells") h
theorem dget_at (h : H d = some (.dK (drawD c a l u))) : DGet H d (.str "at") (some (.int a)) := draw_at (c := c) (a := a) (l := l) (u := u) ▸ DGet.k (k := Sum.inr "at") h
theorem dget_left (h : H d = some (.dK (drawD c a l u))) : DGet H d (.str "left") (some (.int l)) := draw_left (c := c) (a := a) (l := l) (u := u) ▸ DGet.k (k := Sum.inr "left") h
theorem dget_used (h : H d = some (.dK (drawD c a l u))) : DGet H d (.str "used") (some (.int u)) := draw_used (c := c) (a := a) (l := l) (u := u) ▸ DGet.k (k := Sum.inr "used") h
theorem lenD : (drawD c a l u).length < sizeLine := by rw [sizeLine_eq]; show 4 < 16777216; decide
theorem dput_at (h : H d = some (.dK (drawD c a l u))) : DPut H d (.str "at") (.int i) (upd H d (.dK (drawD c i l u))) := put_at (c := c) (a := a) (l := l) (u := u) (i := i) ▸ DPut.k (k := Sum.inr "at") h lenD
theorem dput_left (h : H d = some (.dK (drawD c a l u))) : DPut H d (.str "left") (.int i) (upd H d (.dK (drawD c a i u))) := put_left (c := c) (a := a) (l := l) (u := u) (i := i) ▸ DPut.k (k := Sum.inr "left") h lenD
theorem dput_used (h : H d = some (.dK (drawD c a l u))) : DPut H d (.str "used") (.int i) (upd H d (.dK (drawD c a l i))) := put_used (c := c) (a := a) (l := l) (u := u) (i := i) ▸ DPut.k (k := Sum.inr "used") h lenD
end
theorem Exb.upd {d : Addr} {H H' : Hp} {o : HO} (e : Exb d H H') : Exb d H (upd H' d o) := fun a u n h => by
  rw [upd_ne n]
  exact e a u n h
theorem Exb.ex {d : Addr} {H H1 H' : Hp} (a : Exb d H H1) (b : Ex H1 H') : Exb d H H' := a.trans (Exb.of b)
theorem Exb.exl {d : Addr} {H H1 H' : Hp} (a : Ex H H1) (b : Exb d H1 H') : Exb d H H' := (Exb.of a).trans b
/-- promises of the drawing defs -/
def spBegin (K : Frag) : Sp := sp1 fun x H Q _ => ∃ (a : Addr) (ns : List Int), x = .ref a ∧ SqL K H a (ns.map V.int) ∧ ns.length ≤ 63 ∧ ∀ d H', H d = none → Ex H H' → DrawAt K H' d 0 → Q (.ref d) H'
def spMixed : Sp := sp2 fun x y H Q _ => ∃ c k, x = .int c ∧ y = .int k ∧ 0 ≤ k ∧ k < 2 ^ 60 ∧ ∀ r, Q (.int r) H
def RDr (K : Frag) (H : Hp) (d : Addr) (n : Nat) (k : Hp → Prop) : Prop := ∀ H', DrawAt K H' d n → Exb d H H' → k H'
def spNext (K : Frag) : Sp := sp2 fun x y H Q _ => ∃ d n b, x = .ref d ∧ y = .int b ∧ DrawAt K H d n ∧ n < 2 ^ 50 ∧ 0 < b ∧ b < 2 ^ 60 ∧ ∀ r, 0 ≤ r → r < b → RDr K H d (n + 1) (Q (.int r))
theorem atI_mem {xs : List V} {r : Int} (h0 : 0 ≤ r) (h1 : r < xs.length) : ∃ v, atI xs r = some v ∧ v ∈ xs := by
  have e : ((r.toNat : Nat) : Int) = r := Int.toNat_of_nonneg h0
  have hn : r.toNat < xs.length := by omega
  refine ⟨xs[r.toNat], ?_, List.getElem_mem hn⟩
  have h : ixN xs.length r = some r.toNat := by
    unfold ixN
    rw [if_pos h0, if_pos (by omega)]
  unfold atI
  rw [h]
  show xs[r.toNat]? = _
  rw [List.getElem?_eq_getElem hn]
theorem sz5 {n : Nat} (h : n ≤ 1000) : n ≤ sizeLine := by rw [sizeLine_eq]; omega
theorem isNumD_is {p q : Int} (i : IsNum p q) : isNumD (.tuple [.int p, .int q]) = true := decide_eq_true i
theorem fb_nums {x y : V} {p q r s : Int} (i1 : IsNum p q) (i2 : IsNum r s) : fb [x, y] [.tuple [.int p, .int q], .tuple [.int r, .int s]] = none := by
  simp only [fb, isNumD_is i1, isNumD_is i2, if_true]
/-- an operation that refuses -/
theorem bin_ref {K : Frag} {C : Addr} {f : V → V → Int → Int → Int → Int → Hp → VK → XK → Prop} {x y v : V} {dx dy : PyData} {H : Hp} {Q : VK} {E : XK} (hx : Dp K H x dx) (hy : Dp K H y dy) (h : fb [x, y] [dx, dy] = some v) (r : RErr H E C "thing" v) :
    spBin K C f [x, y] H Q E := ⟨x, y, rfl, dx, dy, hx, hy, (fun z e => by
    rw [h] at e
    cases e
    exact r), (fun p q r s e1 e2 i1 i2 => by
    subst e1 e2
    rw [fb_nums i1 i2] at h
    cases h)⟩
/-- an operation of two numbers -/
theorem bin_num {K : Frag} {C : Addr} {f : V → V → Int → Int → Int → Int → Hp → VK → XK → Prop} {x y : V} {p q r s : Int} {H : Hp} {Q : VK} {E : XK} (hx : NumAt K H x p q) (hy : NumAt K H y r s) (i1 : IsNum p q) (i2 : IsNum r s)
    (b1 : Bd 4000 p) (b2 : Bd 4000 q) (b3 : Bd 4000 r) (b4 : Bd 4000 s) (h : f x y p q r s H Q E) :
    spBin K C f [x, y] H Q E := ⟨x, y, rfl, _, _, hx.d, hy.d, (fun z e => by
    rw [fb_nums i1 i2] at e
    cases e), (fun p' q' r' s' e1 e2 _ _ => by
    cases e1
    cases e2
    exact ⟨b1, b2, b3, b4, h⟩)⟩
/-- data that repr shows: how deep, how long -/
structure Gd (k m : Nat) (d : PyData) : Prop where
  s : d.showable = true
  n : d.hasDict = false
  p : d.depth ≤ k
  w : wt d ≤ m
theorem Gd.mono {k m k' m' : Nat} {d : PyData} (g : Gd k m d) (h1 : k ≤ k') (h2 : m ≤ m') : Gd k' m' d := ⟨g.s, g.n, Nat.le_trans g.p h1, Nat.le_trans g.w h2⟩
theorem Gd.l {k : Nat} {d : PyData} (g : Gd k 16000000 d) : d.shown.length ≤ sizeLine := by rw [sizeLine_eq]; have := shown_le d g.s g.n; have := g.w; omega
theorem rep_gd {K : Frag} {H : Hp} {Q : VK} {x : V} {d : PyData} (hd : Dp K H x d) (g : Gd 100 16000000 d) (q : Q (.str d.shown) H) : rReprD K [x] H Q :=
  ⟨x, d, rfl, hd, g.s, g.n, g.p, by rw [sizeLine_eq]; have := shown_le d g.s g.n; have := g.w; omega, q⟩
theorem Gd.int {i : Int} (h : Bd 1900 i) : Gd 0 1921 (.int i) := ⟨by simp only [PyData.showable]; have := h.log (by decide); simp; omega, by simp [PyData.hasDict], by simp [PyData.depth], by simp [wt]⟩
theorem Gd.two {k m : Nat} {x y : PyData} (a : Gd k m x) (b : Gd k m y) : Gd (k + 1) (2 * m + 10) (.list [x, y]) := by
  have h1 := a.p
  have h2 := b.p
  have h3 := a.w
  have h4 := b.w
  refine ⟨?_, ?_, ?_, ?_⟩
  · simp [PyData.showable, PyData.showableAll, a.s, b.s]
  · simp [PyData.hasDict, PyData.hasDictAll, a.n, b.n]
  · simp only [PyData.depth, PyData.depthAll]; omega
  · simp only [wt, wtAll]; omega
theorem Gd.pair {k m : Nat} {x y : PyData} (a : Gd k m x) (b : Gd k m y) : Gd (k + 1) (2 * m + 10) (.tuple [x, y]) := by
  have h1 := a.p
  have h2 := b.p
  have h3 := a.w
  have h4 := b.w
  refine ⟨?_, ?_, ?_, ?_⟩
  · simp [PyData.showable, PyData.showableAll, a.s, b.s]
  · simp [PyData.hasDict, PyData.hasDictAll, a.n, b.n]
  · simp only [PyData.depth, PyData.depthAll]; omega
  · simp only [wt, wtAll]; omega
theorem Gd.number {m : Nat} (hm : 20 ≤ m) {k : Nat} {x : PyData} (a : Gd k m x) : Gd (k + 1) (2 * m + 10) (.list [.str "number", x]) :=
  Gd.two (Gd.mono (k := 0) (m := 20) ⟨by decide +kernel, by simp [PyData.hasDict], by simp [PyData.depth], by decide +kernel⟩ (Nat.zero_le _) hm) a
theorem pick {K : Frag} {H : Hp} {Pd : PyData → Prop} : ∀ {xs : List V} {ds : List PyData} {r : Int}, DpAll K H xs ds → 0 ≤ r → r < xs.length → (∀ d ∈ ds, Pd d) → ∃ v d, atI xs r = some v ∧ Dp K H v d ∧ Pd d := by
  intro xs ds r h h0 h1 hp
  have key : ∀ (xs : List V) (ds : List PyData) (n : Nat), DpAll K H xs ds → n < xs.length → ∃ v d, xs[n]? = some v ∧ Dp K H v d ∧ d ∈ ds := by
    intro xs
    induction xs with
    | nil => intro ds n _ z; cases z
    | cons x xs ih =>
      intro ds n h z
      cases h with
      | cons a b =>
        cases n with
        | zero => exact ⟨_, _, rfl, a, List.mem_cons_self⟩
        | succ n =>
          obtain ⟨v, d, h1, h2, h3⟩ := ih _ n b (by simpa using z)
          exact ⟨v, d, by simpa using h1, h2, List.mem_cons_of_mem _ h3⟩
  have e : ((r.toNat : Nat) : Int) = r := Int.toNat_of_nonneg h0
  have hn : r.toNat < xs.length := by omega
  obtain ⟨v, d, h1, h2, h3⟩ := key xs ds r.toNat h hn
  refine ⟨v, d, ?_, h2, hp d h3⟩
  have h : ixN xs.length r = some r.toNat := by
    unfold ixN
    rw [if_pos h0, if_pos (by omega)]
  unfold atI
  rw [h]
  exact h1
/-- what one carries over a new object -/
theorem Dp.new {K : Frag} {H : Hp} {p : Addr} {x : V} {d : PyData} (o : HO) (h : H p = none) (hd : Dp K H x d) : Dp K (upd H p o) x d := (Car.ex (Evl.Ex.new h)).d hd
theorem Dp.tupN {K : Frag} {H : Hp} {p : Addr} {vs : List V} {ds : List PyData} (h : H p = none) (hd : DpAll K H vs ds) : Dp K (upd H p (.tup vs)) (.ref p) (.tuple ds) := .tup (SqT.of upd_same) ((Car.ex (Evl.Ex.new h)).ds hd)
theorem Dp.lstN {K : Frag} {H : Hp} {p : Addr} {vs : List V} {ds : List PyData} (h : H p = none) (hd : DpAll K H vs ds) : Dp K (upd H p (.lst vs)) (.ref p) (.list ds) := .lst (SqL.of upd_same) ((Car.ex (Evl.Ex.new h)).ds hd)
theorem red_all {A B : Int} {m n : Nat} (hB : B ≠ 0) (bA : Bd m A) (bB : Bd n B) : ∃ t1 t2, red A B = (t1, t2) ∧ IsNum t1 t2 ∧ Bd m t1 ∧ Bd n t2 ∧ t1 * B = A * t2 := ⟨(red A B).1, (red A B).2, rfl, red_num hB, bA.red1 hB, bB.red2 hB, red_cross hB⟩
theorem floor_num {K : Frag} {C : Addr} {x : V} {p q : Int} {H : Hp} {Q : VK} {E : XK} (hx : NumAt K H x p q) (i : IsNum p q) (b : Bd 9000 q) (h : ∀ H', Ex H H' → Q (.int (p.fdiv q)) H') : spFloor K C [x] H Q E :=
  ⟨x, rfl, _, hx.d, (fun z => absurd (isNumD_is i) (by rw [z]; simp)), (fun p' q' e _ => by
    cases e
    exact ⟨b, h⟩)⟩
theorem sgn3_neg (a b : Int) : sgn3 b a = 0 - sgn3 a b := by unfold sgn3; omega
theorem due_in {σ : L2.St} {H : Hp} {Q : VK} {p q r s : Int} {n m k j : Nat} (h1 : σ[n]? = some (some (.int p))) (h2 : σ[m]? = some (some (.int q))) (h3 : σ[k]? = some (some (.int r))) (h4 : σ[j]? = some (some (.int s))) (c1 : CMulW p s) (c2 : CMulW q r) (h : Q (.int (sgn3 (p * s) (r * q))) H) :
    tIf (tTest (tOp rEq (tOp (rI CMulW fun i j => .int (i * j)) (tVar n) (tVar j)) (tOp (rI CMulW fun i j => .int (i * j)) (tVar m) (tVar k)))) (tC (.int 0))
      (tIf (tTest (tOp (rI0 fun i j => .bl (decide (i > j))) (tOp (rI CMulW fun i j => .int (i * j)) (tVar n) (tVar j)) (tOp (rI CMulW fun i j => .int (i * j)) (tVar m) (tVar k)))) (tC (.int 1)) (tOp (rI0 fun i j => .int (i - j)) (tC (.int 0)) (tC (.int 1)))) σ H Q := by
  refine ⟨_, h1, _, h4, _, _, rfl, rfl, c1, _, h2, _, h3, _, _, rfl, rfl, c2, rfl, _, rfl, iteB (fun g => ?_) (fun g => ?_)⟩
  · have e : p * s = q * r := V.int.inj (of_decide_eq_true g)
    have : sgn3 (p * s) (r * q) = 0 := by rw [e, Int.mul_comm r q]; unfold sgn3; omega
    rw [this] at h
    exact h
  · have e : p * s ≠ q * r := fun z => of_decide_eq_false g (congrArg V.int z)
    refine ⟨_, h1, _, h4, _, _, rfl, rfl, c1, _, h2, _, h3, _, _, rfl, rfl, c2, _, _, rfl, rfl, _, rfl, iteB (fun g => ?_) (fun g => ?_)⟩
    · have e : p * s > q * r := of_decide_eq_true g
      have : sgn3 (p * s) (r * q) = 1 := by rw [Int.mul_comm r q]; unfold sgn3; omega
      rw [this] at h
      exact h
    · have e : ¬ p * s > q * r := of_decide_eq_false g
      have : sgn3 (p * s) (r * q) = 0 - 1 := by rw [Int.mul_comm r q]; unfold sgn3; omega
      rw [this] at h
      exact ⟨_, _, rfl, rfl, h⟩
theorem fdiv_le {p q : Int} (h : 1 ≤ q) : p.fdiv q * q ≤ p ∧ p < (p.fdiv q + 1) * q := by
  rw [Int.fdiv_eq_ediv_of_nonneg _ (by omega)]
  exact ⟨Int.ediv_mul_le p (by omega), Int.lt_ediv_add_one_mul_self p (by omega)⟩
theorem fdiv_bd {n : Nat} {p q : Int} (h : 1 ≤ q) (b : Bd n p) : Bd n (p.fdiv q) := by
  obtain ⟨h1, h2⟩ := fdiv_le (p := p) h
  unfold Bd at *
  refine Nat.lt_of_le_of_lt ?_ b
  generalize p.fdiv q = l at h1 h2
  by_cases h0 : 0 ≤ l
  · have : l * 1 ≤ l * q := Int.mul_le_mul_of_nonneg_left h h0
    omega
  · have : (l + 1) * q ≤ (l + 1) * 1 := Int.mul_le_mul_of_nonpos_left (by omega) h
    omega
theorem sgn3_bd (a b : Int) : Bd 2 (sgn3 a b) := by unfold sgn3 Bd; split <;> split <;> decide
theorem bin_no {x y : V} {p q r s : Int} {C : V → Prop} (i1 : IsNum p q) (i2 : IsNum r s) : ∀ z, fb [x, y] [.tuple [.int p, .int q], .tuple [.int r, .int s]] = some z → C z := fun z e => by
  rw [fb_nums i1 i2] at e
  cases e
theorem bin_yes {p q r s : Int} {X : Int → Int → Int → Int → Prop} (b1 : Bd 4000 p) (b2 : Bd 4000 q) (b3 : Bd 4000 r) (b4 : Bd 4000 s) (h : X p q r s) :
    ∀ p' q' r' s', PyData.tuple [.int p, .int q] = .tuple [.int p', .int q'] → PyData.tuple [.int r, .int s] = .tuple [.int r', .int s'] → IsNum p' q' → IsNum r' s' → Bd 4000 p' ∧ Bd 4000 q' ∧ Bd 4000 r' ∧ Bd 4000 s' ∧ X p' q' r' s' := fun p' q' r' s' e1 e2 _ _ => by
  cases e1
  cases e2
  exact ⟨b1, b2, b3, b4, h⟩
theorem floor_no {p q : Int} {C : Prop} (i : IsNum p q) : isNumD (.tuple [.int p, .int q]) = false → C := fun z => absurd (isNumD_is i) (by rw [z]; simp)
theorem floor_yes {p q : Int} {X : Int → Int → Prop} (b : Bd 9000 q) (h : X p q) : ∀ p' q', PyData.tuple [.int p, .int q] = .tuple [.int p', .int q'] → IsNum p' q' → Bd 9000 q' ∧ X p' q' := fun p' q' e _ => by
  cases e
  exact ⟨b, h⟩
end Rm
/-! Numbers with bounds, and their texts. -/
namespace Rm
open PySem PySem.W PySem.Calls PyProof.Rows PySem.Spec L2
def isPosD : PyData → Bool
  | .tuple [.int a, .int b] => decide (IsNum a b) && decide (0 < a)
  | _ => false
def hasPartsD (d : PyData) (m n : Int) : Bool := match d with
  | .tuple [.int a, .int b] => decide (IsNum a b) && decide (0 < a) && decide (a ≤ m) && decide (b ≤ n)
  | _ => false
def isPaceD (d : PyData) : Bool := match d with
  | .tuple [.int a, .int b] => hasPartsD (.tuple [.int a, .int b]) 60 60 || (decide (IsNum a b) && decide (a = 0))
  | _ => false
theorem isPosD_no {d : PyData} (h : isNumD d = false) : isPosD d = false := by
  unfold isPosD
  split
  · have h3 : decide (IsNum _ _) = false := h
    rw [h3]
    rfl
  · rfl
theorem isPosD_is {a b : Int} (i : IsNum a b) : isPosD (.tuple [.int a, .int b]) = decide (0 < a) := by
  show (decide (IsNum a b) && decide (0 < a)) = _
  rw [decide_eq_true i, Bool.true_and]
theorem hasPartsD_no {d : PyData} {m n : Int} (h : isPosD d = false) : hasPartsD d m n = false := by
  unfold hasPartsD
  split
  · rename_i a b
    have h3 : (decide (IsNum a b) && decide (0 < a)) = false := h
    rw [h3]
    rfl
  · rfl
theorem hasPartsD_is {a b m n : Int} (i : IsNum a b) : hasPartsD (.tuple [.int a, .int b]) m n = (decide (0 < a) && decide (a ≤ m) && decide (b ≤ n)) := by
  show (decide (IsNum a b) && decide (0 < a) && decide (a ≤ m) && decide (b ≤ n)) = _
  rw [decide_eq_true i, Bool.true_and]
theorem isPaceD_no {d : PyData} (h : isNumD d = false) : isPaceD d = false := by
  have h2 := hasPartsD_no (m := 60) (n := 60) (isPosD_no h)
  unfold isPaceD
  split
  · have h3 : decide (IsNum _ _) = false := h
    rw [h3, h2]
    rfl
  · rfl
theorem isPaceD_is {a b : Int} (i : IsNum a b) : isPaceD (.tuple [.int a, .int b]) = (hasPartsD (.tuple [.int a, .int b]) 60 60 || decide (a = 0)) := by
  show (_ || (decide (IsNum a b) && decide (a = 0))) = _
  rw [decide_eq_true i, Bool.true_and]
theorem isPosD_inv {d : PyData} (h : isPosD d = true) : ∃ p q, d = .tuple [.int p, .int q] ∧ IsNum p q ∧ 0 < p := by
  unfold isPosD at h
  split at h
  · exact ⟨_, _, rfl, of_decide_eq_true (Bool.and_eq_true_iff.mp h).1, of_decide_eq_true (Bool.and_eq_true_iff.mp h).2⟩
  · cases h
theorem hasPartsD_1 {a b m n : Int} (i : IsNum a b) (h : 0 < a) (h1 : decide (a ≤ m) = true) : hasPartsD (.tuple [.int a, .int b]) m n = decide (b ≤ n) := by
  rw [hasPartsD_is i, decide_eq_true h, h1, Bool.true_and, Bool.true_and]
theorem hasPartsD_0 {a b m n : Int} (i : IsNum a b) (h : 0 < a) (h1 : decide (a ≤ m) = false) : hasPartsD (.tuple [.int a, .int b]) m n = false := by
  rw [hasPartsD_is i, decide_eq_true h, h1, Bool.true_and, Bool.false_and]
def spIsPos (K : Frag) : Sp := sp1 fun x H Q _ => ∃ d, Dp K H x d ∧ ∀ H', Ex H H' → Q (.bl (isPosD d)) H'
def spParts (K : Frag) : Sp := sp3 fun x y z H Q _ => ∃ d m n, Dp K H x d ∧ y = .int m ∧ z = .int n ∧ ∀ H', Ex H H' → Q (.bl (hasPartsD d m n)) H'
def spFactor (K : Frag) : Sp := sp1 fun x H Q _ => ∃ d, Dp K H x d ∧ ∀ H', Ex H H' → Q (.bl (hasPartsD d 60 60)) H'
def spLength (K : Frag) : Sp := sp1 fun x H Q _ => ∃ d, Dp K H x d ∧ ∀ H', Ex H H' → Q (.bl (hasPartsD d 999999 999)) H'
/-- thing is compared with ZERO: it must be data that == takes -/
def spPace (K : Frag) : Sp := sp1 fun x H Q _ => ∃ d, Dp K H x d ∧ ∀ H', Ex H H' → Q (.bl (isPaceD d)) H'
/-- the text of a number -/
def ntext (a b : Int) : Str := if b = 1 then (toString a : String) else Str.empty ++ (toString a : String) ++ ("/" : Str) ++ (toString b : String)
def spNumText (K : Frag) (C : Addr) : Sp := sp1 fun x H Q E => ∃ dx, Dp K H x dx ∧ (isNumD dx = false → RErr H E C "thing" x) ∧
  (∀ p q, dx = .tuple [.int p, .int q] → IsNum p q → p.natAbs.log2 < 1920 ∧ q.natAbs.log2 < 1920 ∧ ∀ H', Ex H H' → Q (.str (ntext p q)) H')
theorem eqv_zero {a b : Int} (i : IsNum a b) : PyData.eqv (.tuple [.int a, .int b]) (.tuple [.int 0, .int 1]) = decide (a = 0) := by
  rw [eqv_num]
  by_cases h : a = 0
  · have h1 := i.2
    have h2 := i.1
    subst h
    have : b = 1 := by
      unfold Int.gcd at h1
      simp at h1
      omega
    subst this
    rfl
  · rw [decide_eq_false h, Bool.false_and]
theorem int_len {i : Int} (h : i.natAbs.log2 < 1920) : (Str.ofString (toString i)).length ≤ 1921 := int_text_len_1921 h
theorem ntext_len {a b : Int} (h1 : a.natAbs.log2 < 1920) (h2 : b.natAbs.log2 < 1920) : (ntext a b).length ≤ 4000 := by
  have e1 := int_len h1
  have e2 := int_len h2
  have e3 : Str.empty.length = 0 := rfl
  have e4 : (Str.ofString "/").length = 1 := by decide
  unfold ntext
  split
  · omega
  · rw [Str.length_append, Str.length_append, Str.length_append]
    omega
theorem lst_inv {K : Frag} {H : Hp} {a : Addr} {ds : List PyData} (h : Dp K H (.ref a) (.list ds)) : ∃ vs, SqL K H a vs ∧ DpAll K H vs ds := by
  cases h with
  | lst a b => exact ⟨_, a, b⟩
theorem Gd.all {k m : Nat} : ∀ {ds : List PyData}, (∀ d ∈ ds, Gd k m d) → PyData.showableAll ds = true ∧ PyData.hasDictAll ds = false ∧ PyData.depthAll ds ≤ k ∧ wtAll ds ≤ ds.length * (m + 2)
  | [], _ => ⟨rfl, rfl, Nat.zero_le _, Nat.zero_le _⟩
  | d :: ds, h => by
    obtain ⟨h1, h2, h3, h4⟩ := Gd.all (ds := ds) (fun x hx => h x (List.mem_cons_of_mem _ hx))
    have g := h d List.mem_cons_self
    have gp := g.p
    have gw := g.w
    refine ⟨?_, ?_, ?_, ?_⟩
    · simp [PyData.showableAll, g.s, h1]
    · simp [PyData.hasDictAll, g.n, h2]
    · simp only [PyData.depthAll]; omega
    · simp only [wtAll, List.length_cons, Nat.add_mul]; omega
theorem Gd.tup {k m : Nat} {ds : List PyData} (h : ∀ d ∈ ds, Gd k m d) : Gd (k + 1) (ds.length * (m + 2) + 3) (.tuple ds) := by
  obtain ⟨h1, h2, h3, h4⟩ := Gd.all h
  exact ⟨h1, h2, by simp only [PyData.depth]; omega, by simp only [wt]; omega⟩
theorem Gd.lst {k m : Nat} {ds : List PyData} (h : ∀ d ∈ ds, Gd k m d) : Gd (k + 1) (ds.length * (m + 2) + 3) (.list ds) := by
  obtain ⟨h1, h2, h3, h4⟩ := Gd.all h
  exact ⟨h1, h2, by simp only [PyData.depth]; omega, by simp only [wt]; omega⟩
theorem Gd.bool {b : Bool} : Gd 0 5 (.bool b) := ⟨rfl, rfl, Nat.le_refl _, Nat.le_refl _⟩
theorem Gd.non : Gd 0 4 .none := ⟨rfl, rfl, Nat.le_refl _, Nat.le_refl _⟩
theorem Gd.str {x : Str} {m : Nat} (h : (reprText x).length ≤ m) : Gd 0 m (.str x) := ⟨rfl, rfl, Nat.le_refl _, h⟩
theorem DpAll.app {K : Frag} {H : Hp} : ∀ {vs ws : List V} {ds es : List PyData}, DpAll K H vs ds → DpAll K H ws es → DpAll K H (vs ++ ws) (ds ++ es)
  | [], _, [], _, .nil, h => h
  | _ :: _, _, _ :: _, _, .cons a b, h => .cons a (DpAll.app b h)
theorem Gd.num_log {k m : Nat} {p q : Int} (g : Gd k m (.tuple [.int p, .int q])) : p.natAbs.log2 < 1920 ∧ q.natAbs.log2 < 1920 := by
  have h := g.s
  simp only [PyData.showable, PyData.showableAll, Bool.and_true, Bool.and_eq_true, decide_eq_true_eq] at h
  exact h
def quotD (dx dy : PyData) : PyData := match dx, dy with
  | .int a, .int b => if b = 0 then .list [.str "number", .tuple [.int a, .int b]] else .list [.str "made", .tuple [.int (red a b).1, .int (red a b).2]]
  | dx, dy => .list [.str "number", .tuple [dx, dy]]
theorem quotD_no {dx dy : PyData} (h : ∀ a b, dx = .int a → dy = .int b → b = 0) : quotD dx dy = .list [.str "number", .tuple [dx, dy]] := by
  unfold quotD
  split
  · rw [if_pos (h _ _ rfl rfl)]
  · rfl
theorem quotD_is {a b : Int} (h : b ≠ 0) : quotD (.int a) (.int b) = .list [.str "made", .tuple [.int (red a b).1, .int (red a b).2]] := if_neg h
end Rm
namespace Rm
open PySem PySem.W PySem.Calls PyProof.Rows PySem.Spec L2
theorem strOk_of (s : String) : PyData.strOk (Str.ofString s) = true := by
  rw [Str.ofString_eq_toList]
  unfold PyData.strOk
  simp only [List.all_toArray, List.all_map, List.all_eq_true, Function.comp, decide_eq_true_eq]
  intro c _
  have h : c.val.toNat < 0xd800 ∨ (0xdfff < c.val.toNat ∧ c.val.toNat < 0x110000) := c.valid
  show c.val.toNat < 0x110000
  omega
theorem strOk_app {x y : Str} (h : PyData.strOk x = true) (k : PyData.strOk y = true) : PyData.strOk (x ++ y) = true := by
  unfold PyData.strOk at *
  show (x.cps ++ y.cps).all _ = true
  rw [Array.all_append, h, k]
  rfl
theorem strOk_num (a b : Int) : PyData.strOk (ntext a b) = true := by
  unfold ntext
  split
  · exact strOk_of _
  · exact strOk_app (strOk_app (strOk_app (by unfold PyData.strOk Str.empty; simp) (strOk_of _)) (strOk_of _)) (strOk_of _)
theorem shaped_ss {x y : Str} (h : PyData.strOk x = true) (k : PyData.strOk y = true) : SeqAt.shaped (.list [.str x, .str y]) = true := by
  simp [SeqAt.shaped, PyData.canLay0, PyData.canLayAll0, PyData.depth, PyData.depthAll, h, k]
theorem empty_app (x : Str) : Str.empty ++ x = x := by
  show (⟨Str.empty.cps ++ x.cps⟩ : Str) = x
  cases x
  simp [Str.empty]
theorem bd_of_log {n : Nat} {i : Int} (h : i.natAbs.log2 < n) : Bd n i := by
  unfold Bd
  by_cases h0 : i.natAbs = 0
  · rw [h0]; exact Nat.two_pow_pos n
  · exact (Nat.log2_lt h0).mp h
theorem quot_gd {dx dy : PyData} (g1 : Gd 1 4000 dx) (g2 : Gd 1 4000 dy) : Gd 100 16000000 (quotD dx dy) := by
  by_cases h : ∀ a b, dx = .int a → dy = .int b → b = 0
  · rw [quotD_no h]
    exact (Gd.number (by decide) (Gd.pair g1 g2)).mono (by decide) (by decide)
  · have ⟨a, b, e1, e2, hb⟩ : ∃ a b, dx = .int a ∧ dy = .int b ∧ b ≠ 0 := by
      apply Classical.byContradiction
      intro hn
      exact h fun a b e1 e2 => Classical.byContradiction fun hb => hn ⟨a, b, e1, e2, hb⟩
    subst e1 e2
    rw [quotD_is hb]
    have lg : ∀ {i : Int}, PyData.showable (.int i) = true → i.natAbs.log2 < 1920 := fun h => by simpa [PyData.showable] using h
    have k1 : Gd 0 1921 (.int (red a b).1) := ⟨by simp only [PyData.showable, decide_eq_true_eq]; exact PySem.Flt.log2_lt_of (by decide) ((bd_of_log (lg g1.s)).red1 hb), rfl, Nat.le_refl _, Nat.le_refl _⟩
    have k2 : Gd 0 1921 (.int (red a b).2) := ⟨by simp only [PyData.showable, decide_eq_true_eq]; exact PySem.Flt.log2_lt_of (by decide) ((bd_of_log (lg g2.s)).red2 hb), rfl, Nat.le_refl _, Nat.le_refl _⟩
    exact (Gd.two (k := 1) (m := 4000) (Gd.mono (k := 0) (m := 20) ⟨rfl, rfl, Nat.le_refl _, by decide +kernel⟩ (by decide) (by decide)) ((Gd.pair k1 k2).mono (by decide) (by decide))).mono (by decide) (by decide)
theorem SqL_new {K : Frag} {H : Hp} {p : Addr} {vs : List V} (h : H p = none) : SqL K (upd H p (.lst vs)) p vs := SqL.of upd_same
def rTx : List V → Hp → VK → Prop := fun xs H Q => ∃ i : Int, xs = [.int i] ∧ i.natAbs.log2 < 1920 ∧ Q (.str (Str.ofString (toString i))) H
def rAs : R2 := fun x y H Q => ∃ i j, x = .str i ∧ y = .str j ∧ i.length + j.length ≤ sizeLine ∧ Q (.str (i ++ j)) H
theorem text_in {K : Frag} {σ : L2.St} {H : Hp} {Q : VK} {a : Addr} {p q : Int} {n : Nat} (h : σ[n]? = some (some (.ref a))) (ha : SqT K H a [.int p, .int q]) (l1 : p.natAbs.log2 < 1920) (l2 : q.natAbs.log2 < 1920) (hQ : Q (.str (ntext p q)) H) :
    tIf (tTest (tOp rEq (tOp (rIxT K) (tVar n) (tC (.int 1))) (tC (.int 1)))) (tCB rTx (tCons (tOp (rIxT K) (tVar n) (tC (.int 0))) tNil))
      (tOp rAs (tOp rAs (tCB rTx (tCons (tOp (rIxT K) (tVar n) (tC (.int 0))) tNil)) (tC (.str "/"))) (tCB rTx (tCons (tOp (rIxT K) (tVar n) (tC (.int 1))) tNil))) σ H Q := by
  refine ⟨_, h, _, _, _, _, rfl, rfl, ha, rfl, rfl, _, rfl, iteB (fun c => ?_) (fun c => ?_)⟩
  · have h1 : q = 1 := V.int.inj (of_decide_eq_true c)
    have et : ntext p q = Str.ofString (toString p) := if_pos h1
    rw [et] at hQ
    exact ⟨_, h, _, _, _, _, rfl, rfl, ha, rfl, _, rfl, l1, hQ⟩
  · have h1 : ¬ q = 1 := fun z => of_decide_eq_false c (by rw [z])
    have et : ntext p q = Str.empty ++ Str.ofString (toString p) ++ Str.ofString "/" ++ Str.ofString (toString q) := if_neg h1
    rw [et, empty_app] at hQ
    have e1 := int_len l1
    have e2 := int_len l2
    have e4 : (Str.ofString "/").length = 1 := by decide
    exact ⟨_, h, _, _, _, _, rfl, rfl, ha, rfl, _, rfl, l1, _, _, rfl, rfl, by rw [sizeLine_eq]; omega, _, h, _, _, _, _, rfl, rfl, ha, rfl, _, rfl, l2, _, _, rfl, rfl, by rw [Str.length_append, sizeLine_eq]; omega, hQ⟩
theorem tup2_inv {K : Frag} {H : Hp} {t : Addr} {d1 d2 : PyData} (h : Dp K H (.ref t) (.tuple [d1, d2])) : ∃ u v, SqT K H t [u, v] ∧ Dp K H u d1 ∧ Dp K H v d2 := by
  cases h with
  | tup a b =>
    cases b with
    | cons h1 b =>
      cases b with
      | cons h2 b =>
        cases b
        exact ⟨_, _, a, h1, h2⟩
end Rm
namespace K2
open PySem PySem.W PySem.Calls PyProof.Rows PySem.Spec L2 Rm
def top (i : Nat) : Stmt := PySem.Challenge.pw_roompace_k02_numbers_recognized.main.body.getD i (.Pass ⟨0, 0, 0, 0⟩)
abbrev s_is_integer : Stmt := top 10
abbrev s_common_divisor : Stmt := top 11
abbrev s_reduced : Stmt := top 12
abbrev s_is_number : Stmt := top 13
abbrev s_is_positive : Stmt := top 14
abbrev s_has_parts : Stmt := top 15
abbrev s_is_factor : Stmt := top 16
abbrev s_is_pace : Stmt := top 17
abbrev s_is_length : Stmt := top 18
abbrev s_check_numbers : Stmt := top 19
abbrev s_number : Stmt := top 20
abbrev s_number_text : Stmt := top 21
abbrev s__law_begin : Stmt := top 23
abbrev s__law_mixed : Stmt := top 24
abbrev s__law_next : Stmt := top 25
abbrev s__law_divisor : Stmt := top 26
abbrev s__law_is_integer : Stmt := top 27
abbrev s__law_is_number : Stmt := top 28
abbrev s__law_is_within : Stmt := top 29
abbrev s__law_integer : Stmt := top 30
abbrev s__law_thing : Stmt := top 31
abbrev s__law_told : Stmt := top 32
abbrev s__law_quotient : Stmt := top 33
abbrev s__law_due : Stmt := top 34
abbrev s__law_right : Stmt := top 35
abbrev s_law : Stmt := top 36
structure Ad where
  (is_integer common_divisor reduced is_number is_positive has_parts is_factor is_pace is_length check_numbers number number_text _law_begin _law_mixed _law_next _law_divisor _law_is_integer _law_is_number _law_is_within _law_integer _law_thing _law_told _law_quotient _law_due _law_right law InvalidNumber MissingError PaceError StateError ZERO : Addr)
structure Txt (P : Program) (K : Frag) (mg : Str → Option Value) (D : Ad) : Prop where
  f_is_integer : ∃ fd, Fun K "is_integer" "is_integer" s_is_integer D.is_integer fd
  g_is_integer : mg "is_integer" = some (.ref D.is_integer)
  k_is_integer : keepIn K (.ref D.is_integer) = true
  f_common_divisor : ∃ fd, Fun K "common_divisor" "common_divisor" s_common_divisor D.common_divisor fd
  g_common_divisor : mg "common_divisor" = some (.ref D.common_divisor)
  k_common_divisor : keepIn K (.ref D.common_divisor) = true
  f_reduced : ∃ fd, Fun K "reduced" "reduced" s_reduced D.reduced fd
  g_reduced : mg "reduced" = some (.ref D.reduced)
  k_reduced : keepIn K (.ref D.reduced) = true
  f_is_number : ∃ fd, Fun K "is_number" "is_number" s_is_number D.is_number fd
  g_is_number : mg "is_number" = some (.ref D.is_number)
  k_is_number : keepIn K (.ref D.is_number) = true
  f_is_positive : ∃ fd, Fun K "is_positive" "is_positive" s_is_positive D.is_positive fd
  g_is_positive : mg "is_positive" = some (.ref D.is_positive)
  k_is_positive : keepIn K (.ref D.is_positive) = true
  f_has_parts : ∃ fd, Fun K "has_parts" "has_parts" s_has_parts D.has_parts fd
  g_has_parts : mg "has_parts" = some (.ref D.has_parts)
  k_has_parts : keepIn K (.ref D.has_parts) = true
  f_is_factor : ∃ fd, Fun K "is_factor" "is_factor" s_is_factor D.is_factor fd
  g_is_factor : mg "is_factor" = some (.ref D.is_factor)
  k_is_factor : keepIn K (.ref D.is_factor) = true
  f_is_pace : ∃ fd, Fun K "is_pace" "is_pace" s_is_pace D.is_pace fd
  g_is_pace : mg "is_pace" = some (.ref D.is_pace)
  k_is_pace : keepIn K (.ref D.is_pace) = true
  f_is_length : ∃ fd, Fun K "is_length" "is_length" s_is_length D.is_length fd
  g_is_length : mg "is_length" = some (.ref D.is_length)
  k_is_length : keepIn K (.ref D.is_length) = true
  f_check_numbers : ∃ fd, Fun K "check_numbers" "check_numbers" s_check_numbers D.check_numbers fd
  g_check_numbers : mg "check_numbers" = some (.ref D.check_numbers)
  k_check_numbers : keepIn K (.ref D.check_numbers) = true
  f_number : ∃ fd, FunD K "number" "number" (defArgs s_number) (defBody s_number) (defScope s_number) [.int 1] [] D.number fd
  g_number : mg "number" = some (.ref D.number)
  k_number : keepIn K (.ref D.number) = true
  f_number_text : ∃ fd, Fun K "number_text" "number_text" s_number_text D.number_text fd
  g_number_text : mg "number_text" = some (.ref D.number_text)
  k_number_text : keepIn K (.ref D.number_text) = true
  f__law_begin : ∃ fd, Fun K "_law_begin" "_law_begin" s__law_begin D._law_begin fd
  g__law_begin : mg "_law_begin" = some (.ref D._law_begin)
  k__law_begin : keepIn K (.ref D._law_begin) = true
  f__law_mixed : ∃ fd, Fun K "_law_mixed" "_law_mixed" s__law_mixed D._law_mixed fd
  g__law_mixed : mg "_law_mixed" = some (.ref D._law_mixed)
  k__law_mixed : keepIn K (.ref D._law_mixed) = true
  f__law_next : ∃ fd, Fun K "_law_next" "_law_next" s__law_next D._law_next fd
  g__law_next : mg "_law_next" = some (.ref D._law_next)
  k__law_next : keepIn K (.ref D._law_next) = true
  f__law_divisor : ∃ fd, Fun K "_law_divisor" "_law_divisor" s__law_divisor D._law_divisor fd
  g__law_divisor : mg "_law_divisor" = some (.ref D._law_divisor)
  k__law_divisor : keepIn K (.ref D._law_divisor) = true
  f__law_is_integer : ∃ fd, Fun K "_law_is_integer" "_law_is_integer" s__law_is_integer D._law_is_integer fd
  g__law_is_integer : mg "_law_is_integer" = some (.ref D._law_is_integer)
  k__law_is_integer : keepIn K (.ref D._law_is_integer) = true
  f__law_is_number : ∃ fd, Fun K "_law_is_number" "_law_is_number" s__law_is_number D._law_is_number fd
  g__law_is_number : mg "_law_is_number" = some (.ref D._law_is_number)
  k__law_is_number : keepIn K (.ref D._law_is_number) = true
  f__law_is_within : ∃ fd, Fun K "_law_is_within" "_law_is_within" s__law_is_within D._law_is_within fd
  g__law_is_within : mg "_law_is_within" = some (.ref D._law_is_within)
  k__law_is_within : keepIn K (.ref D._law_is_within) = true
  f__law_integer : ∃ fd, Fun K "_law_integer" "_law_integer" s__law_integer D._law_integer fd
  g__law_integer : mg "_law_integer" = some (.ref D._law_integer)
  k__law_integer : keepIn K (.ref D._law_integer) = true
  f__law_thing : ∃ fd, Fun K "_law_thing" "_law_thing" s__law_thing D._law_thing fd
  g__law_thing : mg "_law_thing" = some (.ref D._law_thing)
  k__law_thing : keepIn K (.ref D._law_thing) = true
  f__law_told : ∃ fd, Fun K "_law_told" "_law_told" s__law_told D._law_told fd
  g__law_told : mg "_law_told" = some (.ref D._law_told)
  k__law_told : keepIn K (.ref D._law_told) = true
  f__law_quotient : ∃ fd, Fun K "_law_quotient" "_law_quotient" s__law_quotient D._law_quotient fd
  g__law_quotient : mg "_law_quotient" = some (.ref D._law_quotient)
  k__law_quotient : keepIn K (.ref D._law_quotient) = true
  f__law_due : ∃ fd, Fun K "_law_due" "_law_due" s__law_due D._law_due fd
  g__law_due : mg "_law_due" = some (.ref D._law_due)
  k__law_due : keepIn K (.ref D._law_due) = true
  f__law_right : ∃ fd, Fun K "_law_right" "_law_right" s__law_right D._law_right fd
  g__law_right : mg "_law_right" = some (.ref D._law_right)
  k__law_right : keepIn K (.ref D._law_right) = true
  f_law : ∃ fd, Fun K "law" "law" s_law D.law fd
  g_law : mg "law" = some (.ref D.law)
  k_law : keepIn K (.ref D.law) = true
  n_abs : mg "abs" = none
  n_bool : mg "bool" = none
  n_int : mg "int" = none
  n_isinstance : mg "isinstance" = none
  n_len : mg "len" = none
  n_max : mg "max" = none
  n_min : mg "min" = none
  n_range : mg "range" = none
  n_repr : mg "repr" = none
  n_str : mg "str" = none
  n_tuple : mg "tuple" = none
  g_InvalidNumber : mg "InvalidNumber" = some (.ref D.InvalidNumber)
  g_MissingError : mg "MissingError" = some (.ref D.MissingError)
  g_PaceError : mg "PaceError" = some (.ref D.PaceError)
  g_StateError : mg "StateError" = some (.ref D.StateError)
  k_InvalidNumber : keepIn K (.ref D.InvalidNumber) = true
  x_InvalidNumber : XCls P K mg "ValueError" "ValueError.__new__" "ValueError.__init__" [.type "ValueError", .type "Exception", .type "BaseException", .type "object"] "thing" D.InvalidNumber
  z_InvalidNumber : ∀ X : Cx, X.K = K → Raises X (.ref D.InvalidNumber)
  t_InvalidNumber : XKit K D.InvalidNumber
  h_InvalidNumber : findIn K (.ref D.InvalidNumber) "thing" = some none
  g_MOST_ABOVE : ∃ u, mg "MOST_ABOVE" = some u ∧ RelV (.int 999999) u
  g_MOST_BELOW : ∃ u, mg "MOST_BELOW" = some u ∧ RelV (.int 999) u
  g_MOST_PART : ∃ u, mg "MOST_PART" = some u ∧ RelV (.int 60) u
  g_ZERO : ∃ u, mg "ZERO" = some u ∧ RelV (.ref D.ZERO) u
  q_ZERO : ∀ H : Hp, NumAt K H (.ref D.ZERO) 0 1
  e_InvalidNumber : exmAny K (.ref D.InvalidNumber) [.ref D.PaceError, .ref D.StateError, .ref D.MissingError] = some true
  i_InvalidNumber : kitOne K (.ref D.InvalidNumber) (.ref D.InvalidNumber) = some true
section
variable {P : Program} {w : World} {K : Frag} {mg : Str → Option Value} {base : Heap} {D : Ad}
abbrev N_is_integer : List Str := ["thing"]
theorem sc_is_integer : FnScope N_is_integer ["thing"] (defScope s_is_integer) := ⟨rfl, rfl, rfl, by decide +kernel, rfl, by decide +kernel, by decide +kernel⟩
theorem fb_is_integer (T : Txt P K mg D) : ∃ fd, Fun K "is_integer" "is_integer" s_is_integer D.is_integer fd ∧ FnB P w K mg base 1 D.is_integer fd ["thing"] (spIsInt K) := by
  obtain ⟨fd, F⟩ := T.f_is_integer
  refine ⟨fd, F, Fun_okB (k := 0) F sc_is_integer fun cdv A outer s H vs Q E hr hg h => ?_⟩
  have nd := sc_is_integer.nd
  obtain ⟨x, rfl, d, hd, q⟩ := h
  refine ⟨_, (pss_one (ps_ret (pe_and (pe_callB call_isD rfl T.n_isinstance (by decide +kernel) (pa_cons (pv 0) (pa_cons (pe_bltn (v := .ty "int") rfl T.n_int (by decide +kernel) rfl) pa_nil))) (pe_one (pe_not (pe_callB call_isD rfl T.n_isinstance (by decide +kernel) (pa_cons (pv 0) (pa_cons (pe_bltn (v := .ty "bool") rfl T.n_bool (by decide +kernel) rfl) pa_nil)))))))), ?_⟩
  refine ⟨_, rfl, _, _, d, _, rfl, hd, kit_int d, _, rfl, ?_⟩
  cases d <;> first | exact iteF q | exact iteT ⟨_, rfl, _, _, _, _, rfl, hd, kit_bool _, _, rfl, q⟩
theorem ok_is_integer (T : Txt P K mg D) : CallG P w K mg base 1 D.is_integer [] (spIsInt K) := by
  obtain ⟨fd, F, B⟩ := fb_is_integer (w := w) (base := base) T
  exact B.pos sp1_len (F.binds (ps := ["thing"]) fun _ _ _ _ _ _ us hl => match us, hl with | [_], _ => rfl)
abbrev N_common_divisor : List Str := ["first", "second"]
theorem sc_common_divisor : FnScope N_common_divisor ["first", "second"] (defScope s_common_divisor) := ⟨rfl, rfl, rfl, by decide +kernel, rfl, by decide +kernel, by decide +kernel⟩
theorem fb_common_divisor (T : Txt P K mg D) : ∃ fd, Fun K "common_divisor" "common_divisor" s_common_divisor D.common_divisor fd ∧ FnB P w K mg base 1 D.common_divisor fd ["first", "second"] spGcd := by
  obtain ⟨fd, F⟩ := T.f_common_divisor
  refine ⟨fd, F, Fun_okB (k := 0) F sc_common_divisor fun cdv A outer s H vs Q E hr hg h => ?_⟩
  have nd := sc_common_divisor.nd
  obtain ⟨x, y, rfl, a, b, rfl, rfl, q⟩ := h
  refine ⟨_, (pss_cons (ps_par rfl nd (i := 0) (j := 1) rfl rfl (by decide) rfl rfl (pa_cons (pe_callB call_abs rfl T.n_abs (by decide +kernel) (pa_cons (pv 0) pa_nil)) (pa_cons (pe_callB call_abs rfl T.n_abs (by decide +kernel) (pa_cons (pv 1) pa_nil)) pa_nil)) (by rfl))
        (pss_cons (ps_while (passes_of rfl) (pt_cmpR op_gt (pv 1) pe_int (nomark _)) (pss_one (ps_par rfl nd (i := 0) (j := 1) rfl rfl (by decide) rfl rfl (pa_cons (pv 1) (pa_cons (pe_op op_mod (pv 0) (pv 1)) pa_nil)) (by rfl))))
        (pss_one (ps_ret (pv 0))))), ?_⟩
  refine ⟨_, rfl, _, rfl, _, rfl, _, rfl, _, _, rfl, ?_⟩
  refine while_by (fun σ H' => ∃ x y : Int, σ = [some (.int x), some (.int y)] ∧ H' = H ∧ 0 ≤ x ∧ 0 ≤ y ∧ Int.gcd x y = Int.gcd a b)
    (fun σ _ => match σ with | [_, some (.int y)] => y.toNat | _ => 0) ⟨if a < 0 then -a else a, if b < 0 then -b else b, rfl, rfl, by split <;> omega, by split <;> omega, ?_⟩ ?_ ?_
  · split <;> split <;> simp [Int.gcd]
  · rintro σ H' ⟨x, y, rfl, rfl, hx, hy, hg'⟩
    refine ⟨_, rfl, _, _, rfl, rfl, _, rfl, ?_⟩
    refine iteB (fun c => ?_) (fun c => ?_)
    · have hy' : 0 < y := of_decide_eq_true c
      refine ⟨_, rfl, _, rfl, _, rfl, _, _, rfl, rfl, hy', _, _, rfl, ⟨y, x % y, rfl, rfl, hy, Int.emod_nonneg _ (by omega), by rw [gcd_step hx hy', hg']⟩, ?_⟩
      have := Int.emod_lt_of_pos x hy'
      have := Int.emod_nonneg x (show y ≠ 0 by omega)
      show (x % y).toNat < y.toNat
      omega
    · have hy' : ¬ 0 < y := of_decide_eq_false c
      have hy0 : y = 0 := by omega
      refine ⟨_, rfl, ?_⟩
      subst hy0
      have : (x : Int) = (Int.gcd a b : Nat) := by rw [← hg']; simp [Int.gcd]; omega
      rw [this]
      exact q
  · rintro σ H' Q1 Q2 hq ⟨v, e, i, j, e1, e2, k, e3, z⟩
    exact ⟨v, e, i, j, e1, e2, k, e3, hq _ _ z⟩
theorem ok_common_divisor (T : Txt P K mg D) : CallG P w K mg base 1 D.common_divisor [] spGcd := by
  obtain ⟨fd, F, B⟩ := fb_common_divisor (w := w) (base := base) T
  exact B.pos sp2_len (F.binds (ps := ["first", "second"]) fun _ _ _ _ _ _ us hl => match us, hl with | [_, _], _ => rfl)
abbrev N_reduced : List Str := ["above", "below", "divisor"]
theorem sc_reduced : FnScope N_reduced ["above", "below"] (defScope s_reduced) := ⟨rfl, rfl, rfl, by decide +kernel, rfl, by decide +kernel, by decide +kernel⟩
theorem fb_reduced (T : Txt P K mg D) : ∃ fd, Fun K "reduced" "reduced" s_reduced D.reduced fd ∧ FnB P w K mg base 2 D.reduced fd ["above", "below"] spRed := by
  obtain ⟨fd, F⟩ := T.f_reduced
  refine ⟨fd, F, Fun_okB (k := 1) F sc_reduced fun cdv A outer s H vs Q E hr hg h => ?_⟩
  have nd := sc_reduced.nd
  obtain ⟨x, y, rfl, a, b, rfl, rfl, hb, hB, q⟩ := h
  refine ⟨_, (pss_cons (ps_set (i := 2) nd rfl (.inl rfl) (pe_callG (ok_common_divisor T) (hr.mono (by decide)) hg (takes_of rfl rfl rfl rfl) rfl T.g_common_divisor T.k_common_divisor (pa_cons (pv 0) (pa_cons (pv 1) pa_nil))))
        (pss_cons (ps_if (pt_cmpR op_lt (pv 1) pe_int (nomark _)) (pss_one (ps_set (i := 2) nd rfl (.inl rfl) (pe_un un_neg (pv 2)))) pss_nil)
        (pss_one (ps_ret (pe_tup (pa_cons (pe_op op_fdivS (pv 0) (pv 2)) (pa_cons (pe_op op_fdivS (pv 1) (pv 2)) pa_nil))))))), ?_⟩
  have hdv : Bd 9000 (dv a b) := by
    unfold Bd
    rw [dv_abs]
    exact Nat.lt_of_le_of_lt (Nat.le_of_dvd (by omega) (by unfold Int.gcd; exact Nat.gcd_dvd_right _ _)) hB
  have fin : ∀ {H' : Hp}, Ex H H' → ∀ σ : L2.St, σ = [some (.int a), some (.int b), some (.int (dv a b))] → tRet (tTup (tCons (tOp (rI CDivS fun i j => .int (i.fdiv j)) (tVar 0) (tVar 2)) (tCons (tOp (rI CDivS fun i j => .int (i.fdiv j)) (tVar 1) (tVar 2)) tNil))) { nx := fun _ H' => Q .non H', rt := Q } σ H' := by
    rintro H' ex σ rfl
    refine ⟨_, rfl, _, rfl, _, _, rfl, rfl, hdv.fdiv (dv_ne hb), _, rfl, _, rfl, _, _, rfl, rfl, hdv.fdiv (dv_ne hb), by rw [sizeLine_eq]; show 2 ≤ 16777216; decide, fun p hp => ?_⟩
    exact q p _ (Evl.fresh_back ex hp) (ex.trans (Evl.Ex.new hp)) upd_same
  refine ⟨_, rfl, _, rfl, _, _, rfl, a, b, rfl, rfl, ?_⟩
  refine ⟨_, rfl, _, _, rfl, rfl, _, rfl, ?_⟩
  refine iteB (fun c => ?_) (fun c => ?_)
  · have hb' : b < 0 := of_decide_eq_true c
    refine ⟨_, rfl, _, rfl, ?_⟩
    exact fin (Evl.Ex.refl H) _ (by show [some (V.int a), some (V.int b), some (V.int (-(Int.gcd a b : Int)))] = _; unfold dv; rw [if_pos hb'])
  · have hb' : ¬ b < 0 := of_decide_eq_false c
    exact fin (Evl.Ex.refl H) _ (by show [some (V.int a), some (V.int b), some (V.int (Int.gcd a b : Int))] = _; unfold dv; rw [if_neg hb'])
theorem ok_reduced (T : Txt P K mg D) : CallG P w K mg base 2 D.reduced [] spRed := by
  obtain ⟨fd, F, B⟩ := fb_reduced (w := w) (base := base) T
  exact B.pos sp2_len (F.binds (ps := ["above", "below"]) fun _ _ _ _ _ _ us hl => match us, hl with | [_, _], _ => rfl)
abbrev N_is_number : List Str := ["thing", "above", "below"]
theorem sc_is_number : FnScope N_is_number ["thing"] (defScope s_is_number) := ⟨rfl, rfl, rfl, by decide +kernel, rfl, by decide +kernel, by decide +kernel⟩
theorem fb_is_number (T : Txt P K mg D) : ∃ fd, Fun K "is_number" "is_number" s_is_number D.is_number fd ∧ FnB P w K mg base 2 D.is_number fd ["thing"] (spIsNum K) := by
  obtain ⟨fd, F⟩ := T.f_is_number
  refine ⟨fd, F, Fun_okB (k := 1) F sc_is_number fun cdv A outer s H vs Q E hr hg h => ?_⟩
  have nd := sc_is_number.nd
  obtain ⟨x, rfl, d, hd, q⟩ := h
  refine ⟨_, (pss_cons (ps_if (PW.pt (pw_or (pt_not (pt_val (pe_callB call_isD rfl T.n_isinstance (by decide +kernel) (pa_cons (pv 0) (pa_cons (pe_bltn (v := .ty "tuple") rfl T.n_tuple (by decide +kernel) rfl) pa_nil))))) (pw_or1 (pt_cmpR op_ne (pe_callB call_len rfl T.n_len (by decide +kernel) (pa_cons (pv 0) pa_nil)) pe_int (nomark _))))) (pss_one (ps_ret pe_bl)) pss_nil)
        (pss_cons (ps_asg (pv 0) (pg_tup rfl (pgs_cons (pg_name (i := 1) nd rfl (.inl rfl)) (pgs_cons (pg_name (i := 2) nd rfl (.inl rfl)) pgs_nil))))
        (pss_cons (ps_if (PW.pt (pw_or (pt_not (pt_val (pe_callG (ok_is_integer T) (hr.mono (by decide)) hg (takes_of rfl rfl rfl rfl) rfl T.g_is_integer T.k_is_integer (pa_cons (pv 1) pa_nil)))) (pw_or (pt_not (pt_val (pe_callG (ok_is_integer T) (hr.mono (by decide)) hg (takes_of rfl rfl rfl rfl) rfl T.g_is_integer T.k_is_integer (pa_cons (pv 2) pa_nil)))) (pw_or1 (pt_cmpR op_lt (pv 2) pe_int (nomark _)))))) (pss_one (ps_ret pe_bl)) pss_nil)
        (pss_one (ps_ret (pe_cmpR op_eq (pe_callG (ok_common_divisor T) (hr.mono (by decide)) hg (takes_of rfl rfl rfl rfl) rfl T.g_common_divisor T.k_common_divisor (pa_cons (pv 1) (pa_cons (pv 2) pa_nil))) pe_int (nomark _))))))), ?_⟩
  have q0 := q H (Evl.Ex.refl H)
  refine ⟨_, rfl, _, _, d, _, rfl, hd, kit_tuple d, _, rfl, ?_⟩
  cases hd with
  | non => exact iteT (iteT q0)
  | bl b => exact iteT (iteT q0)
  | int i => exact iteT (iteT q0)
  | str x => exact iteT (iteT q0)
  | lst _ _ => exact iteT (iteT q0)
  | @tup a xs ds ha hds =>
    have hl := DpAll.len hds
    refine iteF ⟨_, rfl, _, _, rfl, .inr ⟨_, ha, rfl⟩, rfl, _, rfl, ?_⟩
    refine iteB (fun c => ?_) (fun c => ?_)
    · have : isNumD (.tuple ds) = false := isNumD_tup (fun z => by rw [hl, z] at c; simp at c)
      rw [this] at q0
      exact q0
    · have h2 : xs.length = 2 := by
        have : V.int (xs.length : Int) = V.int 2 := by simpa using c
        have := V.int.inj this
        omega
      obtain ⟨u, v, du, dw, rfl, rfl, hu, hv⟩ := DpAll.two hds h2
      · refine ⟨_, rfl, _, _, rfl, ha, rfl, _, _, rfl, _, _, rfl, rfl, ?_⟩
        refine ⟨_, rfl, _, rfl, du, hu, _, rfl, ?_⟩
        refine iteB (fun c => ?_) (fun c => ?_)
        · rw [isNumD_1 (by simpa using c)] at q0
          exact iteT q0
        · obtain ⟨i, rfl⟩ := isIntD_inv (by simpa using c)
          refine ⟨_, rfl, _, rfl, dw, hv, _, rfl, ?_⟩
          refine iteB (fun c => ?_) (fun c => ?_)
          · rw [isNumD_2 (by simpa using c)] at q0
            exact iteT q0
          · obtain ⟨j, rfl⟩ := isIntD_inv (by simpa using c)
            cases hu
            cases hv
            refine ⟨_, rfl, _, _, rfl, rfl, _, rfl, ?_⟩
            refine iteB (fun c => ?_) (fun c => ?_)
            · have hj : j < 1 := of_decide_eq_true c
              have : isNumD (.tuple [.int i, .int j]) = false := decide_eq_false fun z => by have := z.1; omega
              rw [this] at q0
              exact q0
            · have hj : ¬ j < 1 := of_decide_eq_false c
              refine ⟨_, rfl, _, rfl, _, _, rfl, i, j, rfl, rfl, rfl, ?_⟩
              have : decide (V.int (Int.gcd i j : Nat) = V.int 1) = isNumD (.tuple [.int i, .int j]) := by
                unfold isNumD IsNum
                by_cases g : Int.gcd i j = 1
                · have e1 : V.int (Int.gcd i j : Nat) = V.int 1 := by rw [g]; rfl
                  rw [decide_eq_true e1]
                  exact (decide_eq_true (show 1 ≤ j ∧ Int.gcd i j = 1 from ⟨by omega, g⟩)).symm
                · have g' : ¬ V.int (Int.gcd i j : Nat) = V.int 1 := fun z => g (by have := V.int.inj z; omega)
                  simp [g, g']
              rw [this]
              exact q0
theorem ok_is_number (T : Txt P K mg D) : CallG P w K mg base 2 D.is_number [] (spIsNum K) := by
  obtain ⟨fd, F, B⟩ := fb_is_number (w := w) (base := base) T
  exact B.pos sp1_len (F.binds (ps := ["thing"]) fun _ _ _ _ _ _ us hl => match us, hl with | [_], _ => rfl)
theorem ok_is_number_thing (T : Txt P K mg D) : CallG P w K mg base 2 D.is_number ["thing"] (fun vs H Q E => vs.length = 1 ∧ (spIsNum K) (permV [0] vs) H Q E) := by
  obtain ⟨fd, F, B⟩ := fb_is_number (w := w) (base := base) T
  refine FnB.perm (ks := ["thing"]) B [0] 1 sp1_len fun s us ws hk hw hl => ?_
  match us, ws, hw, hl with
  | [], [_], _, _ =>
    obtain ⟨_, _, _, _, _, _, _, _, _, rfl, _⟩ := F.ex
    exact BindsTo.of_eq rfl
  | _ :: _, [_], _, h => exact absurd h (by simp)
abbrev N_is_positive : List Str := ["thing"]
theorem sc_is_positive : FnScope N_is_positive ["thing"] (defScope s_is_positive) := ⟨rfl, rfl, rfl, by decide +kernel, rfl, by decide +kernel, by decide +kernel⟩
theorem fb_is_positive (T : Txt P K mg D) : ∃ fd, Fun K "is_positive" "is_positive" s_is_positive D.is_positive fd ∧ FnB P w K mg base 3 D.is_positive fd ["thing"] (spIsPos K) := by
  obtain ⟨fd, F⟩ := T.f_is_positive
  refine ⟨fd, F, Fun_okB (k := 2) F sc_is_positive fun cdv A outer s H vs Q E hr hg h => ?_⟩
  have nd := sc_is_positive.nd
  obtain ⟨x, rfl, d, hd, hq⟩ := h
  refine ⟨_, (pss_one (ps_ret (pe_and (pe_callG (ok_is_number T) (hr.mono (by decide)) hg (takes_of rfl rfl rfl rfl) rfl T.g_is_number T.k_is_number (pa_cons (pv 0) pa_nil)) (pe_one (pe_cmpR op_gt (pe_ix ix_tup (pv 0) pe_int (fun _ _ => rfl)) pe_int (nomark _)))))), ?_⟩
  refine ⟨_, rfl, _, rfl, d, hd, fun H1 e1 => ⟨_, rfl, iteB (fun c => ?_) (fun c => ?_)⟩⟩
  · obtain ⟨p, q, rfl, i⟩ := isNumD_inv c
    obtain ⟨a, rfl, ha⟩ := NumAt.of ((Car.ex e1).d hd)
    have q0 := hq H1 e1
    rw [isPosD_is i] at q0
    exact ⟨_, rfl, _, _, _, _, rfl, rfl, ha, rfl, _, _, rfl, rfl, q0⟩
  · have q0 := hq H1 e1
    rw [isPosD_no c] at q0
    exact q0
theorem ok_is_positive (T : Txt P K mg D) : CallG P w K mg base 3 D.is_positive [] (spIsPos K) := by
  obtain ⟨fd, F, B⟩ := fb_is_positive (w := w) (base := base) T
  exact B.pos sp1_len (F.binds (ps := ["thing"]) fun _ _ _ _ _ _ us hl => match us, hl with | [_], _ => rfl)
abbrev N_has_parts : List Str := ["thing", "most_above", "most_below"]
theorem sc_has_parts : FnScope N_has_parts ["thing", "most_above", "most_below"] (defScope s_has_parts) := ⟨rfl, rfl, rfl, by decide +kernel, rfl, by decide +kernel, by decide +kernel⟩
theorem fb_has_parts (T : Txt P K mg D) : ∃ fd, Fun K "has_parts" "has_parts" s_has_parts D.has_parts fd ∧ FnB P w K mg base 4 D.has_parts fd ["thing", "most_above", "most_below"] (spParts K) := by
  obtain ⟨fd, F⟩ := T.f_has_parts
  refine ⟨fd, F, Fun_okB (k := 3) F sc_has_parts fun cdv A outer s H vs Q E hr hg h => ?_⟩
  have nd := sc_has_parts.nd
  obtain ⟨x, y, z, rfl, d, m, n, hd, rfl, rfl, hq⟩ := h
  refine ⟨_, (pss_one (ps_ret (pe_and (pe_callG (ok_is_positive T) (hr.mono (by decide)) hg (takes_of rfl rfl rfl rfl) rfl T.g_is_positive T.k_is_positive (pa_cons (pv 0) pa_nil)) (pe_and (pe_cmpR op_le (pe_ix ix_tup (pv 0) pe_int (fun _ _ => rfl)) (pv 1) (nomark _)) (pe_one (pe_cmpR op_le (pe_ix ix_tup (pv 0) pe_int (fun _ _ => rfl)) (pv 2) (nomark _))))))), ?_⟩
  refine ⟨_, rfl, _, rfl, d, hd, fun H1 e1 => ⟨_, rfl, iteB (fun c => ?_) (fun c => ?_)⟩⟩
  · obtain ⟨p, q, rfl, i, h0⟩ := isPosD_inv c
    obtain ⟨a, rfl, ha⟩ := NumAt.of ((Car.ex e1).d hd)
    have q0 := hq H1 e1
    refine ⟨_, rfl, _, _, _, _, rfl, rfl, ha, rfl, _, rfl, _, _, rfl, rfl, _, rfl, iteB (fun c2 => ?_) (fun c2 => ?_)⟩
    · rw [hasPartsD_1 i h0 c2] at q0
      exact ⟨_, rfl, _, _, _, _, rfl, rfl, ha, rfl, _, rfl, _, _, rfl, rfl, q0⟩
    · rw [hasPartsD_0 i h0 c2] at q0
      exact q0
  · have q0 := hq H1 e1
    rw [hasPartsD_no c] at q0
    exact q0
theorem ok_has_parts (T : Txt P K mg D) : CallG P w K mg base 4 D.has_parts [] (spParts K) := by
  obtain ⟨fd, F, B⟩ := fb_has_parts (w := w) (base := base) T
  exact B.pos sp3_len (F.binds (ps := ["thing", "most_above", "most_below"]) fun _ _ _ _ _ _ us hl => match us, hl with | [_, _, _], _ => rfl)
abbrev N_is_factor : List Str := ["thing"]
theorem sc_is_factor : FnScope N_is_factor ["thing"] (defScope s_is_factor) := ⟨rfl, rfl, rfl, by decide +kernel, rfl, by decide +kernel, by decide +kernel⟩
theorem fb_is_factor (T : Txt P K mg D) : ∃ fd, Fun K "is_factor" "is_factor" s_is_factor D.is_factor fd ∧ FnB P w K mg base 5 D.is_factor fd ["thing"] (spFactor K) := by
  obtain ⟨fd, F⟩ := T.f_is_factor
  refine ⟨fd, F, Fun_okB (k := 4) F sc_is_factor fun cdv A outer s H vs Q E hr hg h => ?_⟩
  have nd := sc_is_factor.nd
  obtain ⟨x, rfl, d, hd, hq⟩ := h
  refine ⟨_, (pss_one (ps_ret (pe_callG (ok_has_parts T) (hr.mono (by decide)) hg (takes_of rfl rfl rfl rfl) rfl T.g_has_parts T.k_has_parts (pa_cons (pv 0) (pa_cons (pe_gcc (v := .int 60) rfl T.g_MOST_PART) (pa_cons (pe_gcc (v := .int 60) rfl T.g_MOST_PART) pa_nil)))))), ?_⟩
  exact ⟨_, rfl, _, _, _, rfl, d, _, _, hd, rfl, rfl, hq⟩
theorem ok_is_factor (T : Txt P K mg D) : CallG P w K mg base 5 D.is_factor [] (spFactor K) := by
  obtain ⟨fd, F, B⟩ := fb_is_factor (w := w) (base := base) T
  exact B.pos sp1_len (F.binds (ps := ["thing"]) fun _ _ _ _ _ _ us hl => match us, hl with | [_], _ => rfl)
theorem ok_is_factor_thing (T : Txt P K mg D) : CallG P w K mg base 5 D.is_factor ["thing"] (fun vs H Q E => vs.length = 1 ∧ (spFactor K) (permV [0] vs) H Q E) := by
  obtain ⟨fd, F, B⟩ := fb_is_factor (w := w) (base := base) T
  refine FnB.perm (ks := ["thing"]) B [0] 1 sp1_len fun s us ws hk hw hl => ?_
  match us, ws, hw, hl with
  | [], [_], _, _ =>
    obtain ⟨_, _, _, _, _, _, _, _, _, rfl, _⟩ := F.ex
    exact BindsTo.of_eq rfl
  | _ :: _, [_], _, h => exact absurd h (by simp)
abbrev N_is_pace : List Str := ["thing"]
theorem sc_is_pace : FnScope N_is_pace ["thing"] (defScope s_is_pace) := ⟨rfl, rfl, rfl, by decide +kernel, rfl, by decide +kernel, by decide +kernel⟩
theorem fb_is_pace (T : Txt P K mg D) : ∃ fd, Fun K "is_pace" "is_pace" s_is_pace D.is_pace fd ∧ FnB P w K mg base 6 D.is_pace fd ["thing"] (spPace K) := by
  obtain ⟨fd, F⟩ := T.f_is_pace
  refine ⟨fd, F, Fun_okB (k := 5) F sc_is_pace fun cdv A outer s H vs Q E hr hg h => ?_⟩
  have nd := sc_is_pace.nd
  obtain ⟨x, rfl, d, hd, hq⟩ := h
  refine ⟨_, (pss_one (ps_ret (pe_or (pe_callG (ok_is_factor T) (hr.mono (by decide)) hg (takes_of rfl rfl rfl rfl) rfl T.g_is_factor T.k_is_factor (pa_cons (pv 0) pa_nil)) (pe_one (pe_and (pe_callG (ok_is_number T) (hr.mono (by decide)) hg (takes_of rfl rfl rfl rfl) rfl T.g_is_number T.k_is_number (pa_cons (pv 0) pa_nil)) (pe_one (pe_cmpR (op_eqD hr.units) (pv 0) (pe_gcc (v := .ref D.ZERO) rfl T.g_ZERO) (nomark _)))))))), ?_⟩
  refine ⟨_, rfl, _, rfl, d, hd, fun H1 e1 => ⟨_, rfl, iteB (fun c => ?_) (fun c => ?_)⟩⟩
  · have q0 := hq H1 e1
    cases e : isNumD d with
    | false =>
      rw [hasPartsD_no (isPosD_no e)] at c
      cases c
    | true =>
      obtain ⟨p, q, rfl, i⟩ := isNumD_inv e
      rw [isPaceD_is i, c, Bool.true_or] at q0
      exact q0
  · refine ⟨_, rfl, _, rfl, d, (Car.ex e1).d hd, fun H2 e2 => ⟨_, rfl, iteB (fun c2 => ?_) (fun c2 => ?_)⟩⟩
    · have q0 := hq H2 (e1.trans e2)
      obtain ⟨p, q, rfl, i⟩ := isNumD_inv c2
      rw [isPaceD_is i, c, Bool.false_or] at q0
      refine ⟨_, rfl, _, _, (Car.ex (e1.trans e2)).d hd, (T.q_ZERO H2).d, shaped_num _ _, shaped_num _ _, ?_⟩
      show Q (.bl (PyData.eqv (.tuple [.int p, .int q]) (.tuple [.int 0, .int 1]))) H2
      rw [eqv_zero i]
      exact q0
    · have q0 := hq H2 (e1.trans e2)
      rw [isPaceD_no c2] at q0
      exact q0
theorem ok_is_pace (T : Txt P K mg D) : CallG P w K mg base 6 D.is_pace [] (spPace K) := by
  obtain ⟨fd, F, B⟩ := fb_is_pace (w := w) (base := base) T
  exact B.pos sp1_len (F.binds (ps := ["thing"]) fun _ _ _ _ _ _ us hl => match us, hl with | [_], _ => rfl)
theorem ok_is_pace_thing (T : Txt P K mg D) : CallG P w K mg base 6 D.is_pace ["thing"] (fun vs H Q E => vs.length = 1 ∧ (spPace K) (permV [0] vs) H Q E) := by
  obtain ⟨fd, F, B⟩ := fb_is_pace (w := w) (base := base) T
  refine FnB.perm (ks := ["thing"]) B [0] 1 sp1_len fun s us ws hk hw hl => ?_
  match us, ws, hw, hl with
  | [], [_], _, _ =>
    obtain ⟨_, _, _, _, _, _, _, _, _, rfl, _⟩ := F.ex
    exact BindsTo.of_eq rfl
  | _ :: _, [_], _, h => exact absurd h (by simp)
abbrev N_is_length : List Str := ["thing"]
theorem sc_is_length : FnScope N_is_length ["thing"] (defScope s_is_length) := ⟨rfl, rfl, rfl, by decide +kernel, rfl, by decide +kernel, by decide +kernel⟩
theorem fb_is_length (T : Txt P K mg D) : ∃ fd, Fun K "is_length" "is_length" s_is_length D.is_length fd ∧ FnB P w K mg base 5 D.is_length fd ["thing"] (spLength K) := by
  obtain ⟨fd, F⟩ := T.f_is_length
  refine ⟨fd, F, Fun_okB (k := 4) F sc_is_length fun cdv A outer s H vs Q E hr hg h => ?_⟩
  have nd := sc_is_length.nd
  obtain ⟨x, rfl, d, hd, hq⟩ := h
  refine ⟨_, (pss_one (ps_ret (pe_callG (ok_has_parts T) (hr.mono (by decide)) hg (takes_of rfl rfl rfl rfl) rfl T.g_has_parts T.k_has_parts (pa_cons (pv 0) (pa_cons (pe_gcc (v := .int 999999) rfl T.g_MOST_ABOVE) (pa_cons (pe_gcc (v := .int 999) rfl T.g_MOST_BELOW) pa_nil)))))), ?_⟩
  exact ⟨_, rfl, _, _, _, rfl, d, _, _, hd, rfl, rfl, hq⟩
theorem ok_is_length (T : Txt P K mg D) : CallG P w K mg base 5 D.is_length [] (spLength K) := by
  obtain ⟨fd, F, B⟩ := fb_is_length (w := w) (base := base) T
  exact B.pos sp1_len (F.binds (ps := ["thing"]) fun _ _ _ _ _ _ us hl => match us, hl with | [_], _ => rfl)
theorem ok_is_length_thing (T : Txt P K mg D) : CallG P w K mg base 5 D.is_length ["thing"] (fun vs H Q E => vs.length = 1 ∧ (spLength K) (permV [0] vs) H Q E) := by
  obtain ⟨fd, F, B⟩ := fb_is_length (w := w) (base := base) T
  refine FnB.perm (ks := ["thing"]) B [0] 1 sp1_len fun s us ws hk hw hl => ?_
  match us, ws, hw, hl with
  | [], [_], _, _ =>
    obtain ⟨_, _, _, _, _, _, _, _, _, rfl, _⟩ := F.ex
    exact BindsTo.of_eq rfl
  | _ :: _, [_], _, h => exact absurd h (by simp)
abbrev N_check_numbers : List Str := ["things", "thing"]
theorem sc_check_numbers : FnScope N_check_numbers ["things"] (defScope s_check_numbers) := ⟨rfl, rfl, rfl, by decide +kernel, rfl, by decide +kernel, by decide +kernel⟩
theorem fb_check_numbers (T : Txt P K mg D) : ∃ fd, Fun K "check_numbers" "check_numbers" s_check_numbers D.check_numbers fd ∧ FnB P w K mg base 3 D.check_numbers fd ["things"] (spCheckNums1 K D.InvalidNumber) := by
  obtain ⟨fd, F⟩ := T.f_check_numbers
  refine ⟨fd, F, Fun_okB (k := 2) F sc_check_numbers fun cdv A outer s H vs Q E hr hg h => ?_⟩
  have nd := sc_check_numbers.nd
  obtain ⟨x, rfl, p, vs, rfl, hp, ds, hlen, hds, q⟩ := h
  refine ⟨_, (pss_one (ps_for (passes_of rfl) rfl (pi_tup (pv 0)) (pg_name (i := 1) nd rfl (.inl rfl)) (pss_one (ps_if (pt_not (pt_val (pe_callG (ok_is_number T) (hr.mono (by decide)) hg (takes_of rfl rfl rfl rfl) rfl T.g_is_number T.k_is_number (pa_cons (pv 1) pa_nil)))) (pss_one (ps_raise rfl (takes_of rfl rfl rfl rfl) (pmk_newX T.x_InvalidNumber (hr.mono (by decide)) T.k_InvalidNumber (T.z_InvalidNumber _ rfl) rfl T.g_InvalidNumber (pv 1)))) pss_nil)))), ?_⟩
  refine ⟨_, rfl, p, rfl, ⟨_, hp⟩, for_tup (K := K) (a := p) (xs := vs) (fun i σ H' => Ex H H' ∧ (∃ v, σ = [some (.ref p), v]) ∧ fb (vs.drop i) (ds.drop i) = fb vs ds)
    ⟨Evl.Ex.refl H, ⟨none, rfl⟩, rfl⟩ (fun i σ H' _ z => Evl.ex_t z.1 hp) ?_ ?_⟩
  · rintro i x σ H' hx ⟨ex, ⟨v, rfl⟩, hf⟩
    obtain ⟨d, e1, e2, e3⟩ := fb_drop ((Car.ex ex).ds hds) hx
    refine ⟨_, rfl, _, rfl, d, e2, fun H2 ex2 => ⟨_, rfl, ?_⟩⟩
    refine iteB (fun c => ?_) (fun c => ?_)
    · have c' : isNumD d = false := by simpa using c
      rw [hf, if_neg (by rw [c']; simp)] at e3
      rw [e3] at q
      refine ⟨_, rfl, fun dd hdd => ?_⟩
      exact q dd _ (ex.trans (ex2.trans (Evl.Ex.new hdd))) upd_same
    · have c' : isNumD d = true := by simpa using c
      rw [hf, if_pos c'] at e3
      exact ⟨ex.trans ex2, ⟨some x, rfl⟩, e3.symm⟩
  · rintro σ H' ⟨ex, ⟨v, rfl⟩, hf⟩
    have : fb vs ds = none := by
      rw [← hf, List.drop_length]
      rfl
    rw [this] at q
    exact q H' ex
theorem ok_check_numbers (T : Txt P K mg D) : CallG P w K mg base 3 D.check_numbers [] (fun vs H Q E => vs.length ≤ sizeLine ∧ ∀ p, H p = none → (spCheckNums1 K D.InvalidNumber) [.ref p] (upd H p (.tup vs)) Q E) := by
  obtain ⟨fd, F, B⟩ := fb_check_numbers (w := w) (base := base) T
  exact FnB.star (pv := "things") B (by obtain ⟨_, _, _, _, _, _, _, _, _, rfl, _⟩ := F.ex; intro rest; cases rest <;> rfl)
abbrev N_number : List Str := ["above", "below"]
theorem sc_number : FnScope N_number ["above", "below"] (defScope s_number) := ⟨rfl, rfl, rfl, by decide +kernel, rfl, by decide +kernel, by decide +kernel⟩
theorem fb_number (T : Txt P K mg D) : ∃ fd, FunD K "number" "number" (defArgs s_number) (defBody s_number) (defScope s_number) [.int 1] [] D.number fd ∧ FnB P w K mg base 3 D.number fd ["above", "below"] (spNumber K D.InvalidNumber) := by
  obtain ⟨fd, F⟩ := T.f_number
  refine ⟨fd, F, FunD_okB (k := 2) F sc_number fun cdv A outer s H vs Q E hr hg h => ?_⟩
  have nd := sc_number.nd
  obtain ⟨x, y, rfl, dx, dy, hx, hy, q1, q2⟩ := h
  refine ⟨_, (pss_cons (ps_if (PW.pt (pw_or (pt_not (pt_val (pe_callG (ok_is_integer T) (hr.mono (by decide)) hg (takes_of rfl rfl rfl rfl) rfl T.g_is_integer T.k_is_integer (pa_cons (pv 0) pa_nil)))) (pw_or (pt_not (pt_val (pe_callG (ok_is_integer T) (hr.mono (by decide)) hg (takes_of rfl rfl rfl rfl) rfl T.g_is_integer T.k_is_integer (pa_cons (pv 1) pa_nil)))) (pw_or1 (pt_cmpR op_eq (pv 1) pe_int (nomark _)))))) (pss_one (ps_raise rfl (takes_of rfl rfl rfl rfl) (pmk_newX T.x_InvalidNumber (hr.mono (by decide)) T.k_InvalidNumber (T.z_InvalidNumber _ rfl) rfl T.g_InvalidNumber (pe_tup (pa_cons (pv 0) (pa_cons (pv 1) pa_nil)))))) pss_nil)
        (pss_one (ps_ret (pe_callG (ok_reduced T) (hr.mono (by decide)) hg (takes_of rfl rfl rfl rfl) rfl T.g_reduced T.k_reduced (pa_cons (pv 0) (pa_cons (pv 1) pa_nil)))))), ?_⟩
  have rz : (∀ a b, dx = .int a → dy = .int b → b = 0) → ∀ (t : Addr), H t = none → ∀ dd, upd H t (.tup [x, y]) dd = none → E (.ref D.InvalidNumber) (some dd) (upd (upd H t (.tup [x, y])) dd (.xd [("thing", .ref t)])) := fun hc t ht dd hdd =>
    q2 hc t _ ht rfl dd _ (Evl.Ex.new hdd) upd_same
  have sz : [x, y].length ≤ sizeLine := by rw [sizeLine_eq]; show 2 ≤ 16777216; decide
  refine ⟨_, rfl, _, rfl, dx, hx, _, rfl, ?_⟩
  refine iteB (fun c => ?_) (fun c => ?_)
  · have c' : isIntD dx = false := by simpa using c
    exact iteT ⟨_, rfl, _, rfl, sz, fun t ht dd hdd => rz (fun a b e _ => by rw [e] at c'; cases c') t ht dd hdd⟩
  · obtain ⟨a, rfl⟩ := isIntD_inv (by simpa using c)
    refine ⟨_, rfl, _, rfl, dy, hy, _, rfl, ?_⟩
    refine iteB (fun c => ?_) (fun c => ?_)
    · have c' : isIntD dy = false := by simpa using c
      exact iteT ⟨_, rfl, _, rfl, sz, fun t ht dd hdd => rz (fun a b _ e => by rw [e] at c'; cases c') t ht dd hdd⟩
    · obtain ⟨b, rfl⟩ := isIntD_inv (by simpa using c)
      cases hx
      cases hy
      refine ⟨_, rfl, rfl, _, rfl, ?_⟩
      refine iteB (fun c => ?_) (fun c => ?_)
      · have hb : b = 0 := V.int.inj (of_decide_eq_true c)
        exact ⟨_, rfl, _, rfl, sz, fun t ht dd hdd => rz (fun a' b' _ e => by cases e; exact hb) t ht dd hdd⟩
      · have hb : b ≠ 0 := fun z => of_decide_eq_false c (by rw [z])
        obtain ⟨hB, hq⟩ := q1 a b rfl rfl hb
        exact ⟨_, rfl, _, rfl, _, _, rfl, a, b, rfl, rfl, hb, hB, hq⟩
theorem ok_number (T : Txt P K mg D) : CallG P w K mg base 3 D.number [] (spNumber K D.InvalidNumber) := by
  obtain ⟨fd, F, B⟩ := fb_number (w := w) (base := base) T
  exact B.pos sp2_len fun s us hk hl => match us, hl with | [_, _], _ => F.toB (by simp) (fun _ _ _ _ _ _ _ its hi => match its, hi with | [_], _ => ⟨_, rfl, rfl⟩) s hk
theorem ok_number_1 (T : Txt P K mg D) : CallG P w K mg base 3 D.number [] (fun vs H Q E => (spNumber K D.InvalidNumber) (vs ++ [.int 1]) H Q E) := by
  obtain ⟨fd, F, B⟩ := fb_number (w := w) (base := base) T
  obtain ⟨ds, hd, hb⟩ := F.binds1 (ps := ["above", "below"]) 1 0 (by simp) (by decide) fun _ _ _ _ _ _ _ us its h1 h2 => match us, its, h1, h2 with | [_], [_], _, _ => ⟨_, rfl, rfl⟩
  exact B.posD sp2_len hd hb
theorem ok_number_below_above (T : Txt P K mg D) : CallG P w K mg base 3 D.number ["below", "above"] (fun vs H Q E => vs.length = 2 ∧ (spNumber K D.InvalidNumber) (permV [1, 0] vs) H Q E) := by
  obtain ⟨fd, F, B⟩ := fb_number (w := w) (base := base) T
  refine FnB.perm (ks := ["below", "above"]) B [1, 0] 2 sp2_len fun s us ws hk hw hl => ?_
  match us, ws, hw, hl with
  | [], [_, _], _, _ =>
    exact F.toB (by simp) (fun _ _ _ _ _ _ _ its hi => match its, hi with | [_], _ => ⟨_, rfl, rfl⟩) s hk
  | _ :: _, [_, _], _, h => exact absurd h (by simp)
abbrev N_number_text : List Str := ["value"]
theorem sc_number_text : FnScope N_number_text ["value"] (defScope s_number_text) := ⟨rfl, rfl, rfl, by decide +kernel, rfl, by decide +kernel, by decide +kernel⟩
theorem fb_number_text (T : Txt P K mg D) : ∃ fd, Fun K "number_text" "number_text" s_number_text D.number_text fd ∧ FnB P w K mg base 4 D.number_text fd ["value"] (spNumText K D.InvalidNumber) := by
  obtain ⟨fd, F⟩ := T.f_number_text
  refine ⟨fd, F, Fun_okB (k := 3) F sc_number_text fun cdv A outer s H vs Q E hr hg h => ?_⟩
  have nd := sc_number_text.nd
  obtain ⟨x, rfl, dx, hx, qe, qn⟩ := h
  refine ⟨_, (pss_cons (ps_expr (pe_callG (ok_check_numbers T) (hr.mono (by decide)) hg (takes_of rfl rfl rfl rfl) rfl T.g_check_numbers T.k_check_numbers (pa_cons (pv 0) pa_nil)))
        (pss_one (ps_ret (pe_ifExp (pt_cmpR op_eq (pe_ix ix_tup (pv 0) pe_int (fun _ _ => rfl)) pe_int (nomark _)) (pe_callTy call_str_int rfl T.n_str (by decide +kernel) (pa_cons (pe_ix ix_tup (pv 0) pe_int (fun _ _ => rfl)) pa_nil)) (pe_joined (.cons (pe_fmt (pe_ix ix_tup (pv 0) pe_int (fun _ _ => rfl))) (.cons pe_str (.cons (pe_fmt (pe_ix ix_tup (pv 0) pe_int (fun _ _ => rfl))) .nil)))))))), ?_⟩
  refine ⟨_, rfl, checkNums_in ⟨[dx], by show 1 ≤ 1000; decide, .cons hx .nil, ?_⟩⟩
  cases e : fb [x] [dx] with
  | some z =>
    obtain ⟨h1, rfl⟩ := fb_some1 e
    exact qe h1
  | none =>
    obtain ⟨p, q, rfl, i1⟩ := isNumD_inv (fb_none1 e)
    intro H1 ex
    obtain ⟨bp, bq, hq⟩ := qn p q rfl i1
    have q0 := hq H1 ex
    obtain ⟨a, rfl, ha⟩ := NumAt.of ((Car.ex ex).d hx)
    have lp : p.natAbs.log2 < 1920 := bp
    have lq : q.natAbs.log2 < 1920 := bq
    refine ⟨_, rfl, _, _, _, _, rfl, rfl, ha, rfl, rfl, _, rfl, iteB (fun c => ?_) (fun c => ?_)⟩
    · have h1 : q = 1 := V.int.inj (of_decide_eq_true c)
      have et : ntext p q = Str.ofString (toString p) := if_pos h1
      rw [et] at q0
      exact ⟨_, rfl, _, _, _, _, rfl, rfl, ha, rfl, _, rfl, lp, q0⟩
    · have h1 : ¬ q = 1 := fun z => of_decide_eq_false c (by rw [z])
      have et : ntext p q = Str.empty ++ Str.ofString (toString p) ++ Str.ofString "/" ++ Str.ofString (toString q) := if_neg h1
      have zl := ntext_len bp bq
      rw [et] at q0 zl
      have e1 := int_len bp
      have e2 := int_len bq
      have e3 : Str.empty.length = 0 := rfl
      have e4 : (Str.ofString "/").length = 1 := by decide
      refine ⟨_, rfl, _, _, _, _, rfl, rfl, ha, rfl, .inr ⟨_, rfl, lp, _, rfl, by rw [Str.length_append, sizeLine_eq]; omega, _, rfl, by rw [Str.length_append, Str.length_append, sizeLine_eq]; omega, _, rfl, _, _, _, _, rfl, rfl, ha, rfl, .inr ⟨_, rfl, lq, _, rfl, by rw [Str.length_append, Str.length_append, Str.length_append, sizeLine_eq]; omega, q0⟩⟩⟩
theorem ok_number_text (T : Txt P K mg D) : CallG P w K mg base 4 D.number_text [] (spNumText K D.InvalidNumber) := by
  obtain ⟨fd, F, B⟩ := fb_number_text (w := w) (base := base) T
  exact B.pos sp1_len (F.binds (ps := ["value"]) fun _ _ _ _ _ _ us hl => match us, hl with | [_], _ => rfl)
theorem ok_number_text_value (T : Txt P K mg D) : CallG P w K mg base 4 D.number_text ["value"] (fun vs H Q E => vs.length = 1 ∧ (spNumText K D.InvalidNumber) (permV [0] vs) H Q E) := by
  obtain ⟨fd, F, B⟩ := fb_number_text (w := w) (base := base) T
  refine FnB.perm (ks := ["value"]) B [0] 1 sp1_len fun s us ws hk hw hl => ?_
  match us, ws, hw, hl with
  | [], [_], _, _ =>
    obtain ⟨_, _, _, _, _, _, _, _, _, rfl, _⟩ := F.ex
    exact BindsTo.of_eq rfl
  | _ :: _, [_], _, h => exact absurd h (by simp)
abbrev N__law_begin : List Str := ["script"]
theorem sc__law_begin : FnScope N__law_begin ["script"] (defScope s__law_begin) := ⟨rfl, rfl, rfl, by decide +kernel, rfl, by decide +kernel, by decide +kernel⟩
theorem fb__law_begin (T : Txt P K mg D) : ∃ fd, Fun K "_law_begin" "_law_begin" s__law_begin D._law_begin fd ∧ FnB P w K mg base 1 D._law_begin fd ["script"] (spBegin K) := by
  obtain ⟨fd, F⟩ := T.f__law_begin
  refine ⟨fd, F, Fun_okB (k := 0) F sc__law_begin fun cdv A outer s H vs Q E hr hg h => ?_⟩
  have nd := sc__law_begin.nd
  obtain ⟨x, rfl, a, ns, rfl, hs, hl, q⟩ := h
  refine ⟨_, (pss_one (ps_ret (pe_disp (pps_cons pe_str (pe_op op_catL (pv 0) (pe_lst (pa_cons pe_int pa_nil))) (pps_cons pe_str pe_int (pps_cons pe_str pe_int (pps_cons pe_str pe_int pps_nil)))) (by rfl) (by rfl) (fun z => by cases z) (by decide)))), ?_⟩
  refine fun p hp => ⟨_, rfl, by rw [sizeLine_eq]; show 1 ≤ 16777216; decide, fun b hb => ⟨a, b, ns.map V.int, [.int 0], rfl, rfl, (Car.ex ((Evl.Ex.new hp).trans (Evl.Ex.new hb))).l hs, SqL.of upd_same, by rw [sizeLine_eq, List.length_map]; show ns.length + 1 ≤ 16777216; omega, fun c hc => ?_⟩⟩
  have bp : p ≠ b := ne_of_none upd_same hb
  have cb : b ≠ c := ne_of_none upd_same hc
  have cp : p ≠ c := fun z => by rw [← z, upd_ne bp, upd_same] at hc; cases hc
  refine ⟨by rw [upd_ne cp, upd_ne bp, upd_same], drawD c 0 0 0, rfl, by show 4 ≤ 15; decide, ?_⟩
  have em : mergeK [] (drawD c 0 0 0) = drawD c 0 0 0 := by kernel_rfl
  rw [em]
  refine q p _ hp (fun x o e => ?_) ⟨c, ns ++ [0], 0, 0, 0, upd_same, .inl (.inl ?_), by simp, by rw [List.length_append]; show ns.length + 1 ≤ 1000; omega, by decide, by decide, by decide, by decide⟩
  · have xp := ne_of_none e hp
    have e1 : upd H p (.dK []) x = some o := by rw [upd_ne xp, e]
    have xb := ne_of_none e1 hb
    have e2 : upd (upd H p (.dK [])) b (.lst [.int 0]) x = some o := by rw [upd_ne xb, e1]
    have xc := ne_of_none e2 hc
    rw [upd_ne xp, upd_ne xc, e2]
  · rw [upd_ne (Ne.symm cp), upd_same, List.map_append]
    rfl
theorem ok__law_begin (T : Txt P K mg D) : CallG P w K mg base 1 D._law_begin [] (spBegin K) := by
  obtain ⟨fd, F, B⟩ := fb__law_begin (w := w) (base := base) T
  exact B.pos sp1_len (F.binds (ps := ["script"]) fun _ _ _ _ _ _ us hl => match us, hl with | [_], _ => rfl)
abbrev N__law_mixed : List Str := ["cell", "k", "mixed"]
theorem sc__law_mixed : FnScope N__law_mixed ["cell", "k"] (defScope s__law_mixed) := ⟨rfl, rfl, rfl, by decide +kernel, rfl, by decide +kernel, by decide +kernel⟩
theorem fb__law_mixed (T : Txt P K mg D) : ∃ fd, Fun K "_law_mixed" "_law_mixed" s__law_mixed D._law_mixed fd ∧ FnB P w K mg base 1 D._law_mixed fd ["cell", "k"] spMixed := by
  obtain ⟨fd, F⟩ := T.f__law_mixed
  refine ⟨fd, F, Fun_okB (k := 0) F sc__law_mixed fun cdv A outer s H vs Q E hr hg h => ?_⟩
  have nd := sc__law_mixed.nd
  obtain ⟨x, y, rfl, c, k, rfl, rfl, h0, h1, q⟩ := h
  refine ⟨_, (pss_cons (ps_set (i := 2) nd rfl (.inl rfl) (pe_op op_mod (pe_op op_add (pe_op op_add (pe_op op_add (pe_op op_mod (pv 0) pe_int) (pe_op op_mulW (pe_op op_mulW pe_int (pv 1)) (pv 1))) (pe_op op_mulW pe_int (pv 1))) pe_int) pe_int))
        (pss_cons (ps_set (i := 2) nd rfl (.inl rfl) (pe_op op_mod (pe_op op_mulW (pe_op op_mod (pe_op op_mulW (pv 2) (pv 2)) pe_int) (pv 2)) pe_int))
        (pss_one (ps_ret (pe_op op_fdivW (pe_op op_mod (pe_op op_mulW (pv 2) (pe_op op_add pe_int (pe_op op_mulW pe_int (pe_op op_mod (pv 1) pe_int)))) pe_int) pe_int))))), ?_⟩
  have bk : Bd 60 k := by unfold Bd; omega
  have md : ∀ (n : Nat) (a j : Int), 0 < j → j < 2 ^ n → Bd n (a % j) := fun n a j h0 h1 => by
    unfold Bd
    have z0 := Int.emod_nonneg a (show j ≠ 0 by omega)
    have z1 := Int.emod_lt_of_pos a h0
    have : ((2 ^ n : Nat) : Int) = 2 ^ n := by simp
    omega
  have b1 : Bd 13 7919 := by unfold Bd; decide
  have b2 : Bd 5 31 := by unfold Bd; decide
  have b3 : Bd 2 2 := by unfold Bd; decide
  refine ⟨_, rfl, _, _, rfl, rfl, show (0 : Int) < 1000000007 by decide, _, rfl, _, _, rfl, rfl, b1.mulW bk, _, rfl, _, _, rfl, rfl, (b1.mul bk).mulW bk, _, _, rfl, rfl, _, rfl, _, _, rfl, rfl, b2.mulW bk, _, _, rfl, rfl, _, _, rfl, rfl, _, _, rfl, rfl, show (0 : Int) < 2147483647 by decide, ?_⟩
  have bm := md 31 (c % 1000000007 + 7919 * k * k + 31 * k + 7) 2147483647 (by decide) (by decide)
  refine ⟨_, rfl, _, rfl, _, _, rfl, rfl, bm.mulW bm, _, _, rfl, rfl, show (0 : Int) < 2147483647 by decide, _, rfl, _, _, rfl, rfl, (md 31 _ _ (by decide) (by decide)).mulW bm, _, _, rfl, rfl, show (0 : Int) < 2147483629 by decide, ?_⟩
  refine ⟨_, rfl, _, rfl, _, _, rfl, rfl, show (0 : Int) < 1000 by decide, _, _, rfl, rfl, b3.mulW (md 10 k 1000 (by decide) (by decide)), _, _, rfl, rfl, _, _, rfl, rfl, (md 31 _ _ (by decide) (by decide)).mulW (n := 20) ?_, _, _, rfl, rfl, show (0 : Int) < 2147483647 by decide, _, _, rfl, rfl, ⟨by decide, by decide⟩, q _⟩
  exact Bd.add (m := 19) (by unfold Bd; decide) ((b3.mul (md 10 k 1000 (by decide) (by decide))).mono (by decide))
theorem ok__law_mixed (T : Txt P K mg D) : CallG P w K mg base 1 D._law_mixed [] spMixed := by
  obtain ⟨fd, F, B⟩ := fb__law_mixed (w := w) (base := base) T
  exact B.pos sp2_len (F.binds (ps := ["cell", "k"]) fun _ _ _ _ _ _ us hl => match us, hl with | [_, _], _ => rfl)
abbrev N__law_next : List Str := ["draw", "bound", "found", "cells", "cell"]
theorem sc__law_next : FnScope N__law_next ["draw", "bound"] (defScope s__law_next) := ⟨rfl, rfl, rfl, by decide +kernel, rfl, by decide +kernel, by decide +kernel⟩
theorem fb__law_next (T : Txt P K mg D) : ∃ fd, Fun K "_law_next" "_law_next" s__law_next D._law_next fd ∧ FnB P w K mg base 2 D._law_next fd ["draw", "bound"] (spNext K) := by
  obtain ⟨fd, F⟩ := T.f__law_next
  refine ⟨fd, F, Fun_okB (k := 1) F sc__law_next fun cdv A outer s H vs Q E hr hg h => ?_⟩
  have nd := sc__law_next.nd
  obtain ⟨x, y, rfl, d, n, b, rfl, rfl, ⟨c, cells, at', l, u, hd, hc, hne, hlen, a0, a1, u0, u1⟩, hn, b0, b1, q⟩ := h
  refine ⟨_, (pss_cons (ps_if (pt_cmpR op_gt (pe_dget (hu_of hr) (pv 0) pe_str (fun _ _ => rfl)) pe_int (nomark _)) (pss_cons (ps_set (i := 2) nd rfl (.inl rfl) (pe_op op_mod (pe_dget (hu_of hr) (pv 0) pe_str (fun _ _ => rfl)) (pv 1)))
        (pss_cons (ps_dput (hu_of hr) (pv 0) pe_str (pe_op op_fdivW (pe_dget (hu_of hr) (pv 0) pe_str (fun _ _ => rfl)) (pv 1)) rfl)
        (pss_one (ps_ret (pv 2))))) pss_nil)
        (pss_cons (ps_set (i := 3) nd rfl (.inl rfl) (pe_dget (hu_of hr) (pv 0) pe_str (fun _ _ => rfl)))
        (pss_cons (ps_set (i := 4) nd rfl (.inl rfl) (pe_ix ix_list (pv 3) (pe_op op_mod (pe_dget (hu_of hr) (pv 0) pe_str (fun _ _ => rfl)) (pe_callB call_len rfl T.n_len (by decide +kernel) (pa_cons (pv 3) pa_nil))) (fun _ _ => rfl)))
        (pss_cons (ps_dput (hu_of hr) (pv 0) pe_str (pe_op op_add (pe_dget (hu_of hr) (pv 0) pe_str (fun _ _ => rfl)) pe_int) rfl)
        (pss_cons (ps_if (PW.pt (pw_and (pt_cmpR op_ge (pv 4) (pe_op op_pow pe_int pe_int) (nomark _)) (pw_and1 (pt_cmpR op_le (pe_dget (hu_of hr) (pv 0) pe_str (fun _ _ => rfl)) (pe_callB call_len rfl T.n_len (by decide +kernel) (pa_cons (pv 3) pa_nil)) (nomark _))))) (pss_cons (ps_dput (hu_of hr) (pv 0) pe_str (pe_op op_fdivW (pv 4) (pv 1)) rfl)
        (pss_one (ps_ret (pe_op op_mod (pv 4) (pv 1))))) pss_nil)
        (pss_cons (ps_dput (hu_of hr) (pv 0) pe_str (pe_op op_add (pe_dget (hu_of hr) (pv 0) pe_str (fun _ _ => rfl)) pe_int) rfl)
        (pss_one (ps_ret (pe_op op_mod (pe_callG (ok__law_mixed T) (hr.mono (by decide)) hg (takes_of rfl rfl rfl rfl) rfl T.g__law_mixed T.k__law_mixed (pa_cons (pe_callG (ok__law_mixed T) (hr.mono (by decide)) hg (takes_of rfl rfl rfl rfl) rfl T.g__law_mixed T.k__law_mixed (pa_cons (pv 4) (pa_cons (pe_dget (hu_of hr) (pv 0) pe_str (fun _ _ => rfl)) pa_nil))) (pa_cons (pe_dget (hu_of hr) (pv 0) pe_str (fun _ _ => rfl)) pa_nil))) (pv 1)))))))))), ?_⟩
  have hB : Bd 60 b := by unfold Bd; omega
  have hdv : ∀ i, CDivW i b := fun i => ⟨b0, Nat.lt_trans (hB.log (by decide)) (by decide)⟩
  have fin : ∀ (i l' a' u' : Int) (H' : Hp), Exb d H H' → 0 ≤ a' → a' ≤ (n + 1 : Nat) → 0 ≤ u' → u' ≤ (n + 1 : Nat) → H' d = some (.dK (drawD c a' l' u')) → Q (.int (i % b)) H' := fun i l' a' u' H' e h1 h2 h3 h4 h =>
    q _ (Int.emod_nonneg i (by omega)) (Int.emod_lt_of_pos i b0) H' ⟨c, cells, a', l', u', h, (Car.exb hd e).l hc, hne, hlen, h1, h2, h3, h4⟩ e
  have hnn : (n : Int) < 2 ^ 50 := by
    have : ((2 ^ 50 : Nat) : Int) = 2 ^ 50 := by simp
    omega
  refine ⟨_, rfl, d, _, rfl, dget_left hd, _, _, rfl, rfl, _, rfl, ?_⟩
  refine iteB (fun g => ?_) (fun g => ?_)
  · refine ⟨_, rfl, d, _, rfl, dget_left hd, _, rfl, _, _, rfl, rfl, b0, ?_⟩
    refine ⟨_, rfl, d, _, rfl, dget_left hd, _, rfl, _, _, rfl, rfl, hdv _, _, rfl, d, _, rfl, dput_left hd, _, rfl, ?_⟩
    exact fin l _ at' u _ (Exb.refl.upd) a0 (by omega) u0 (by omega) upd_same
  · have hl : 0 < cells.length := List.length_pos_iff.mpr hne
    refine ⟨_, rfl, d, _, rfl, dget_cells hd, _, rfl, _, rfl, d, _, rfl, dget_at hd, _, rfl, _, _, rfl, .inl ⟨_, hc, rfl⟩, _, _, rfl, rfl, ?_⟩
    have hlm : (cells.map V.int).length = cells.length := List.length_map ..
    rw [hlm]
    refine ⟨by omega, ?_⟩
    have mp : (at' % (cells.length : Int)).toNat < cells.length ∧ (((at' % (cells.length : Int)).toNat : Nat) : Int) = at' % (cells.length : Int) := by
      have h1 : 0 ≤ at' % (cells.length : Int) := Int.emod_nonneg _ (by omega)
      have h2 : at' % (cells.length : Int) < (cells.length : Int) := Int.emod_lt_of_pos _ (by omega)
      omega
    obtain ⟨cv, hcv⟩ : ∃ cv, atI (cells.map V.int) (at' % (cells.length : Int)) = some (.int cv) := by
      refine ⟨cells[(at' % (cells.length : Int)).toNat]'(mp.1), ?_⟩
      have h1 : ixN (cells.map V.int).length (at' % (cells.length : Int)) = some (at' % (cells.length : Int)).toNat := by
        have := mp.2
        have := mp.1
        unfold ixN
        rw [if_pos (by omega), if_pos (by rw [hlm]; omega)]
      unfold atI
      rw [h1]
      show (cells.map V.int)[(at' % (cells.length : Int)).toNat]? = _
      rw [List.getElem?_map, List.getElem?_eq_getElem mp.1]
      rfl
    refine ⟨c, _, _, _, rfl, rfl, hc, hcv, ?_⟩
    refine ⟨_, rfl, d, _, rfl, dget_at hd, _, _, rfl, rfl, _, rfl, d, _, rfl, dput_at hd, ?_⟩
    have hc1 : SqL K (upd H d (.dK (drawD c (at' + 1) l u))) c (cells.map V.int) := (Car.exb hd Exb.refl.upd).l hc
    have p1 : CPow 10 18 := ⟨by decide, by decide, by decide⟩
    refine ⟨_, rfl, _, _, rfl, rfl, p1, _, _, rfl, rfl, _, rfl, iteB (fun g1 => ⟨_, rfl, d, _, rfl, dget_at upd_same, _, rfl, _, _, rfl, .inl ⟨_, hc1, rfl⟩, _, _, rfl, rfl, _, rfl, iteB (fun g2 => ?_) (fun g2 => ?_)⟩) (fun g1 => iteF ?_)⟩
    · refine ⟨_, rfl, _, rfl, _, _, rfl, rfl, hdv _, _, rfl, d, _, rfl, dput_left upd_same, _, rfl, _, rfl, _, _, rfl, rfl, b0, ?_⟩
      exact fin cv _ (at' + 1) u _ (Exb.refl.upd.upd) (by omega) (by omega) u0 (by omega) upd_same
    all_goals
      refine ⟨_, rfl, d, _, rfl, dget_used upd_same, _, _, rfl, rfl, _, rfl, d, _, rfl, dput_used upd_same, ?_⟩
      refine ⟨_, rfl, _, rfl, d, _, rfl, dget_at upd_same, _, _, rfl, cv, _, rfl, rfl, by omega, by omega, fun r1 => ?_⟩
      refine ⟨_, rfl, d, _, rfl, dget_used upd_same, _, _, rfl, r1, _, rfl, rfl, by omega, by omega, fun r2 => ?_⟩
      refine ⟨_, rfl, _, _, rfl, rfl, b0, ?_⟩
      exact fin r2 _ (at' + 1) (u + 1) _ (Exb.refl.upd.upd) (by omega) (by omega) (by omega) (by omega) upd_same
theorem ok__law_next (T : Txt P K mg D) : CallG P w K mg base 2 D._law_next [] (spNext K) := by
  obtain ⟨fd, F, B⟩ := fb__law_next (w := w) (base := base) T
  exact B.pos sp2_len (F.binds (ps := ["draw", "bound"]) fun _ _ _ _ _ _ us hl => match us, hl with | [_, _], _ => rfl)
abbrev N__law_divisor : List Str := ["one", "other"]
theorem sc__law_divisor : FnScope N__law_divisor ["one", "other"] (defScope s__law_divisor) := ⟨rfl, rfl, rfl, by decide +kernel, rfl, by decide +kernel, by decide +kernel⟩
def spGcdX : Sp := sp2 fun x y H Q _ => ∃ a b, x = .int a ∧ y = .int b ∧ ∀ H', Ex H H' → Q (.int (Int.gcd a b : Nat)) H'
theorem fb__law_divisor (T : Txt P K mg D) : ∃ fd, Fun K "_law_divisor" "_law_divisor" s__law_divisor D._law_divisor fd ∧ FnB P w K mg base 1 D._law_divisor fd ["one", "other"] spGcdX := by
  obtain ⟨fd, F⟩ := T.f__law_divisor
  refine ⟨fd, F, Fun_okB (k := 0) F sc__law_divisor fun cdv A outer s H vs Q E hr hg h => ?_⟩
  have nd := sc__law_divisor.nd
  obtain ⟨x, y, rfl, a, b, rfl, rfl, q⟩ := h
  refine ⟨_, (pss_cons (ps_par rfl nd (i := 0) (j := 1) rfl rfl (by decide) rfl rfl (pa_cons (pe_callB (call_max2 rfl) rfl T.n_max (by decide +kernel) (pa_cons (pv 0) (pa_cons (pe_op op_sub pe_int (pv 0)) pa_nil))) (pa_cons (pe_callB (call_max2 rfl) rfl T.n_max (by decide +kernel) (pa_cons (pv 1) (pa_cons (pe_op op_sub pe_int (pv 1)) pa_nil))) pa_nil)) (by rfl))
        (pss_cons (ps_while (passes_of rfl) (PW.pt (pw_and (pt_cmpR op_ne (pv 0) pe_int (nomark _)) (pw_and1 (pt_cmpR op_ne (pv 1) pe_int (nomark _))))) (pss_one (ps_asg (pe_ifExp (pt_cmpR op_ge (pv 0) (pv 1) (nomark _)) (pe_tup (pa_cons (pe_op op_mod (pv 0) (pv 1)) (pa_cons (pv 1) pa_nil))) (pe_tup (pa_cons (pv 0) (pa_cons (pe_op op_mod (pv 1) (pv 0)) pa_nil)))) (pg_tup rfl (pgs_cons (pg_name (i := 0) nd rfl (.inl rfl)) (pgs_cons (pg_name (i := 1) nd rfl (.inl rfl)) pgs_nil))))))
        (pss_one (ps_ret (pe_op op_add (pv 0) (pv 1)))))), ?_⟩
  refine ⟨_, rfl, _, rfl, _, _, rfl, rfl, _, _, rfl, _, rfl, _, rfl, _, _, rfl, rfl, _, _, rfl, _, _, rfl, ?_⟩
  refine while_by (fun σ H' => ∃ x y : Int, σ = [some (.int x), some (.int y)] ∧ Ex H H' ∧ 0 ≤ x ∧ 0 ≤ y ∧ Int.gcd x y = Int.gcd a b)
    (fun σ _ => match σ with | [some (.int x), some (.int y)] => x.toNat + y.toNat | _ => 0) ⟨_, _, rfl, Evl.Ex.refl H, by split <;> omega, by split <;> omega, ?_⟩ ?_ ?_
  · have e : ∀ i : Int, (if 0 - i > i then 0 - i else i) = (i.natAbs : Nat) := fun i => by split <;> omega
    rw [e, e]
    simp [Int.gcd]
  · rintro σ H' ⟨x, y, rfl, ex, hx, hy, hg'⟩
    have fin : ∀ z : Int, x + y = z → (x = 0 ∨ y = 0) → Q (.int z) H' := by
      rintro z rfl hz
      have : (x + y : Int) = (Int.gcd a b : Nat) := by
        rw [← hg']
        rcases hz with rfl | rfl <;> simp [Int.gcd] <;> omega
      rw [this]
      exact q H' ex
    refine ⟨_, rfl, rfl, _, rfl, iteB (fun c => ?_) (fun c => ?_)⟩
    · have x0 : x ≠ 0 := fun z => by simp [z] at c
      refine ⟨_, rfl, rfl, _, rfl, iteB (fun c => ?_) (fun c => ?_)⟩
      · have y0 : y ≠ 0 := fun z => by simp [z] at c
        refine ⟨_, rfl, _, rfl, _, _, rfl, rfl, _, rfl, iteB (fun c => ?_) (fun c => ?_)⟩
        · have hge : x ≥ y := of_decide_eq_true c
          refine ⟨_, rfl, _, rfl, _, _, rfl, rfl, by omega, _, rfl, sz5 (by simp), fun p hp => ?_⟩
          refine ⟨_, _, rfl, SqT.of upd_same, rfl, _, _, rfl, _, _, rfl, rfl, ?_⟩
          have h1 := Int.emod_nonneg x y0
          have h2 := Int.emod_lt_of_pos x (show 0 < y by omega)
          refine ⟨⟨x % y, y, rfl, ex.trans (Evl.Ex.new hp), h1, hy, ?_⟩, ?_⟩
          · rw [← hg', Int.gcd_comm (x % y) y]
            exact gcd_step hx (by omega)
          · show (x % y).toNat + y.toNat < x.toNat + y.toNat
            omega
        · have hlt : x < y := by have : ¬ x ≥ y := of_decide_eq_false c; omega
          refine ⟨_, rfl, _, rfl, _, rfl, _, _, rfl, rfl, by omega, sz5 (by simp), fun p hp => ?_⟩
          refine ⟨_, _, rfl, SqT.of upd_same, rfl, _, _, rfl, _, _, rfl, rfl, ?_⟩
          have h1 := Int.emod_nonneg y x0
          have h2 := Int.emod_lt_of_pos y (show 0 < x by omega)
          refine ⟨⟨x, y % x, rfl, ex.trans (Evl.Ex.new hp), hx, h1, ?_⟩, ?_⟩
          · rw [← hg', Int.gcd_comm x y]
            exact gcd_step hy (by omega)
          · show x.toNat + (y % x).toNat < x.toNat + y.toNat
            omega
      · have y0 : y = 0 := by simpa using c
        exact ⟨_, rfl, _, rfl, _, _, rfl, rfl, fin _ rfl (.inr y0)⟩
    · have x0 : x = 0 := by simpa using c
      refine iteF ⟨_, rfl, _, rfl, _, _, rfl, rfl, fin _ rfl (.inl x0)⟩
  · rintro σ H' Q1 Q2 hq ⟨v, e, hs, k, e3, z⟩
    refine ⟨v, e, hs, k, e3, ?_⟩
    cases k with
    | false => exact iteF (hq _ _ (by simpa using z))
    | true =>
      rw [if_pos rfl] at z
      obtain ⟨v2, e2, hs2, k2, e32, z2⟩ := z
      exact iteT ⟨v2, e2, hs2, k2, e32, hq _ _ z2⟩
theorem ok__law_divisor (T : Txt P K mg D) : CallG P w K mg base 1 D._law_divisor [] spGcdX := by
  obtain ⟨fd, F, B⟩ := fb__law_divisor (w := w) (base := base) T
  exact B.pos sp2_len (F.binds (ps := ["one", "other"]) fun _ _ _ _ _ _ us hl => match us, hl with | [_, _], _ => rfl)
abbrev N__law_is_integer : List Str := ["what"]
theorem sc__law_is_integer : FnScope N__law_is_integer ["what"] (defScope s__law_is_integer) := ⟨rfl, rfl, rfl, by decide +kernel, rfl, by decide +kernel, by decide +kernel⟩
theorem fb__law_is_integer (T : Txt P K mg D) : ∃ fd, Fun K "_law_is_integer" "_law_is_integer" s__law_is_integer D._law_is_integer fd ∧ FnB P w K mg base 1 D._law_is_integer fd ["what"] (spIsInt K) := by
  obtain ⟨fd, F⟩ := T.f__law_is_integer
  refine ⟨fd, F, Fun_okB (k := 0) F sc__law_is_integer fun cdv A outer s H vs Q E hr hg h => ?_⟩
  have nd := sc__law_is_integer.nd
  obtain ⟨x, rfl, d, hd, q⟩ := h
  refine ⟨_, (pss_one (ps_ret (pe_and (pe_callB call_isD rfl T.n_isinstance (by decide +kernel) (pa_cons (pv 0) (pa_cons (pe_bltn (v := .ty "int") rfl T.n_int (by decide +kernel) rfl) pa_nil))) (pe_one (pe_not (pe_callB call_isD rfl T.n_isinstance (by decide +kernel) (pa_cons (pv 0) (pa_cons (pe_bltn (v := .ty "bool") rfl T.n_bool (by decide +kernel) rfl) pa_nil)))))))), ?_⟩
  refine ⟨_, rfl, _, _, d, _, rfl, hd, kit_int d, _, rfl, ?_⟩
  cases d <;> first | exact iteF q | exact iteT ⟨_, rfl, _, _, _, _, rfl, hd, kit_bool _, _, rfl, q⟩
theorem ok__law_is_integer (T : Txt P K mg D) : CallG P w K mg base 1 D._law_is_integer [] (spIsInt K) := by
  obtain ⟨fd, F, B⟩ := fb__law_is_integer (w := w) (base := base) T
  exact B.pos sp1_len (F.binds (ps := ["what"]) fun _ _ _ _ _ _ us hl => match us, hl with | [_], _ => rfl)
abbrev N__law_is_number : List Str := ["what"]
theorem sc__law_is_number : FnScope N__law_is_number ["what"] (defScope s__law_is_number) := ⟨rfl, rfl, rfl, by decide +kernel, rfl, by decide +kernel, by decide +kernel⟩
theorem fb__law_is_number (T : Txt P K mg D) : ∃ fd, Fun K "_law_is_number" "_law_is_number" s__law_is_number D._law_is_number fd ∧ FnB P w K mg base 2 D._law_is_number fd ["what"] (spIsNum K) := by
  obtain ⟨fd, F⟩ := T.f__law_is_number
  refine ⟨fd, F, Fun_okB (k := 1) F sc__law_is_number fun cdv A outer s H vs Q E hr hg h => ?_⟩
  have nd := sc__law_is_number.nd
  obtain ⟨x, rfl, d, hd, q⟩ := h
  refine ⟨_, (pss_cons (ps_if (PW.pt (pw_or (pt_not (pt_val (pe_callB call_isD rfl T.n_isinstance (by decide +kernel) (pa_cons (pv 0) (pa_cons (pe_bltn (v := .ty "tuple") rfl T.n_tuple (by decide +kernel) rfl) pa_nil))))) (pw_or (pt_cmpR op_ne (pe_callB call_len rfl T.n_len (by decide +kernel) (pa_cons (pv 0) pa_nil)) pe_int (nomark _)) (pw_or (pt_not (pt_val (pe_callG (ok__law_is_integer T) (hr.mono (by decide)) hg (takes_of rfl rfl rfl rfl) rfl T.g__law_is_integer T.k__law_is_integer (pa_cons (pe_ix ix_tup (pv 0) pe_int (fun _ _ => rfl)) pa_nil)))) (pw_or1 (pt_not (pt_val (pe_callG (ok__law_is_integer T) (hr.mono (by decide)) hg (takes_of rfl rfl rfl rfl) rfl T.g__law_is_integer T.k__law_is_integer (pa_cons (pe_ix ix_tup (pv 0) pe_int (fun _ _ => rfl)) pa_nil))))))))) (pss_one (ps_ret pe_bl)) pss_nil)
        (pss_one (ps_ret (pe_and (pe_cmpR op_ge (pe_ix ix_tup (pv 0) pe_int (fun _ _ => rfl)) pe_int (nomark _)) (pe_one (pe_cmpR op_eq (pe_callG (ok__law_divisor T) (hr.mono (by decide)) hg (takes_of rfl rfl rfl rfl) rfl T.g__law_divisor T.k__law_divisor (pa_cons (pe_ix ix_tup (pv 0) pe_int (fun _ _ => rfl)) (pa_cons (pe_ix ix_tup (pv 0) pe_int (fun _ _ => rfl)) pa_nil))) pe_int (nomark _))))))), ?_⟩
  have q0 := q H (Evl.Ex.refl H)
  refine ⟨_, rfl, _, _, d, _, rfl, hd, kit_tuple d, _, rfl, ?_⟩
  cases hd with
  | non => exact iteT (iteT q0)
  | bl b => exact iteT (iteT q0)
  | int i => exact iteT (iteT q0)
  | str x => exact iteT (iteT q0)
  | lst _ _ => exact iteT (iteT q0)
  | @tup a xs ds ha hds =>
    have hl := DpAll.len hds
    refine iteF ⟨_, rfl, _, _, rfl, .inr ⟨_, ha, rfl⟩, rfl, _, rfl, ?_⟩
    refine iteB (fun c => ?_) (fun c => ?_)
    · have : isNumD (.tuple ds) = false := isNumD_tup (fun z => by rw [hl, z] at c; simp at c)
      rw [this] at q0
      exact iteT q0
    · have h2 : xs.length = 2 := by
        have : V.int (xs.length : Int) = V.int 2 := by simpa using c
        have := V.int.inj this
        omega
      obtain ⟨u, v, du, dw, rfl, rfl, hu, hv⟩ := DpAll.two hds h2
      refine ⟨_, rfl, _, _, _, _, rfl, rfl, ha, rfl, _, rfl, du, hu, _, rfl, iteB (fun c => ?_) (fun c => ?_)⟩
      · rw [isNumD_1 (by simpa using c)] at q0
        exact iteT q0
      · obtain ⟨i, rfl⟩ := isIntD_inv (by simpa using c)
        refine ⟨_, rfl, _, _, _, _, rfl, rfl, ha, rfl, _, rfl, dw, hv, _, rfl, iteB (fun c => ?_) (fun c => ?_)⟩
        · rw [isNumD_2 (by simpa using c)] at q0
          exact q0
        · obtain ⟨j, rfl⟩ := isIntD_inv (by simpa using c)
          cases hu
          cases hv
          refine ⟨_, rfl, _, _, _, _, rfl, rfl, ha, rfl, _, _, rfl, rfl, _, rfl, iteB (fun c => ?_) (fun c => ?_)⟩
          · have hj : j ≥ 1 := of_decide_eq_true c
            refine ⟨_, rfl, _, _, _, _, rfl, rfl, ha, rfl, _, rfl, _, _, _, _, rfl, rfl, ha, rfl, _, _, rfl, i, j, rfl, rfl, fun H1 e1 => ⟨rfl, ?_⟩⟩
            have : decide (V.int (Int.gcd i j : Nat) = V.int 1) = isNumD (.tuple [.int i, .int j]) := by
              unfold isNumD IsNum
              by_cases g : Int.gcd i j = 1
              · have e1 : V.int (Int.gcd i j : Nat) = V.int 1 := by rw [g]; rfl
                rw [decide_eq_true e1]
                exact (decide_eq_true (show 1 ≤ j ∧ Int.gcd i j = 1 from ⟨by omega, g⟩)).symm
              · have g' : ¬ V.int (Int.gcd i j : Nat) = V.int 1 := fun z => g (by have := V.int.inj z; omega)
                simp [g, g']
            show Q (.bl (decide (V.int (Int.gcd i j : Nat) = V.int 1))) H1
            rw [this]
            exact q H1 e1
          · have hj : ¬ j ≥ 1 := of_decide_eq_false c
            have : isNumD (.tuple [.int i, .int j]) = false := decide_eq_false fun z => hj z.1
            rw [this] at q0
            exact q0
theorem ok__law_is_number (T : Txt P K mg D) : CallG P w K mg base 2 D._law_is_number [] (spIsNum K) := by
  obtain ⟨fd, F, B⟩ := fb__law_is_number (w := w) (base := base) T
  exact B.pos sp1_len (F.binds (ps := ["what"]) fun _ _ _ _ _ _ us hl => match us, hl with | [_], _ => rfl)
abbrev N__law_is_within : List Str := ["what", "top", "bottom"]
theorem sc__law_is_within : FnScope N__law_is_within ["what", "top", "bottom"] (defScope s__law_is_within) := ⟨rfl, rfl, rfl, by decide +kernel, rfl, by decide +kernel, by decide +kernel⟩
theorem fb__law_is_within (T : Txt P K mg D) : ∃ fd, Fun K "_law_is_within" "_law_is_within" s__law_is_within D._law_is_within fd ∧ FnB P w K mg base 3 D._law_is_within fd ["what", "top", "bottom"] (spParts K) := by
  obtain ⟨fd, F⟩ := T.f__law_is_within
  refine ⟨fd, F, Fun_okB (k := 2) F sc__law_is_within fun cdv A outer s H vs Q E hr hg h => ?_⟩
  have nd := sc__law_is_within.nd
  obtain ⟨x, y, z, rfl, d, m, n, hd, rfl, rfl, hq⟩ := h
  refine ⟨_, (pss_one (ps_ret (pe_and (pe_callG (ok__law_is_number T) (hr.mono (by decide)) hg (takes_of rfl rfl rfl rfl) rfl T.g__law_is_number T.k__law_is_number (pa_cons (pv 0) pa_nil)) (pe_and (pe_chain op_le op_le pe_int (pe_ix ix_tup (pv 0) pe_int (fun _ _ => rfl)) (pv 1)) (pe_one (pe_cmpR op_le (pe_ix ix_tup (pv 0) pe_int (fun _ _ => rfl)) (pv 2) (nomark _))))))), ?_⟩
  refine ⟨_, rfl, _, rfl, d, hd, fun H1 e1 => ⟨_, rfl, iteB (fun c => ?_) (fun c => ?_)⟩⟩
  · obtain ⟨p, q, rfl, i⟩ := isNumD_inv c
    obtain ⟨a, rfl, ha⟩ := NumAt.of ((Car.ex e1).d hd)
    have q0 := hq H1 e1
    rw [hasPartsD_is i] at q0
    refine ⟨_, rfl, _, _, _, _, rfl, rfl, ha, rfl, _, _, rfl, rfl, _, rfl, iteB (fun c1 => ?_) (fun c1 => ?_)⟩
    · have h1 : decide (0 < p) = true := decide_eq_true (by have : 1 ≤ p := of_decide_eq_true c1; omega)
      refine ⟨_, rfl, _, _, rfl, rfl, _, rfl, iteB (fun c2 => ?_) (fun c2 => ?_)⟩
      · rw [h1, show decide (p ≤ m) = true from c2, Bool.true_and, Bool.true_and] at q0
        exact ⟨_, rfl, _, _, _, _, rfl, rfl, ha, rfl, _, rfl, _, _, rfl, rfl, q0⟩
      · rw [h1, show decide (p ≤ m) = false from c2, Bool.true_and, Bool.false_and] at q0
        exact q0
    · have h1 : decide (0 < p) = false := decide_eq_false (by have : ¬ 1 ≤ p := of_decide_eq_false c1; omega)
      rw [h1, Bool.false_and, Bool.false_and] at q0
      exact ⟨_, rfl, iteF q0⟩
  · have q0 := hq H1 e1
    rw [hasPartsD_no (isPosD_no c)] at q0
    exact q0
theorem ok__law_is_within (T : Txt P K mg D) : CallG P w K mg base 3 D._law_is_within [] (spParts K) := by
  obtain ⟨fd, F, B⟩ := fb__law_is_within (w := w) (base := base) T
  exact B.pos sp3_len (F.binds (ps := ["what", "top", "bottom"]) fun _ _ _ _ _ _ us hl => match us, hl with | [_, _, _], _ => rfl)
abbrev N__law_integer : List Str := ["draw", "great", "k", "some", "found"]
theorem sc__law_integer : FnScope N__law_integer ["draw"] (defScope s__law_integer) := ⟨rfl, rfl, rfl, by decide +kernel, rfl, by decide +kernel, by decide +kernel⟩
def spInteger (K : Frag) : Sp := sp1 fun x H Q _ => ∃ d n, x = .ref d ∧ DrawAt K H d n ∧ n < 2 ^ 49 ∧ ∀ r H', Bd 1400 r → DrawAt K H' d (n + 20) → Exb d H H' → Q (.int r) H'
theorem fb__law_integer (T : Txt P K mg D) : ∃ fd, Fun K "_law_integer" "_law_integer" s__law_integer D._law_integer fd ∧ FnB P w K mg base 3 D._law_integer fd ["draw"] (spInteger K) := by
  obtain ⟨fd, F⟩ := T.f__law_integer
  refine ⟨fd, F, Fun_okB (k := 2) F sc__law_integer fun cdv A outer s H vs Q E hr hg h => ?_⟩
  have nd := sc__law_integer.nd
  obtain ⟨x, rfl, d, n, rfl, hD, hn, q⟩ := h
  refine ⟨_, (pss_cons (ps_set (i := 1) nd rfl (.inl rfl) pe_int)
        (pss_cons (ps_for (passes_of rfl) rfl (pi_range1 rfl T.n_range (pa_cons (pe_callG (ok__law_next T) (hr.mono (by decide)) hg (takes_of rfl rfl rfl rfl) rfl T.g__law_next T.k__law_next (pa_cons (pv 0) (pa_cons pe_int pa_nil))) pa_nil)) (pg_name (i := 2) nd rfl (.inl rfl)) (pss_one (ps_set (i := 1) nd rfl (.inl rfl) (pe_op op_add (pe_op op_mulW (pv 1) (pe_op op_pow pe_int pe_int)) (pe_callG (ok__law_next T) (hr.mono (by decide)) hg (takes_of rfl rfl rfl rfl) rfl T.g__law_next T.k__law_next (pa_cons (pv 0) (pa_cons pe_int pa_nil)))))))
        (pss_cons (ps_set (i := 3) nd rfl (.inl rfl) (pe_lst (pa_cons pe_int (pa_cons pe_int (pa_cons pe_int (pa_cons pe_int (pa_cons pe_int (pa_cons pe_int (pa_cons pe_int (pa_cons pe_int (pa_cons (pv 1) (pa_cons (pe_callG (ok__law_next T) (hr.mono (by decide)) hg (takes_of rfl rfl rfl rfl) rfl T.g__law_next T.k__law_next (pa_cons (pv 0) (pa_cons pe_int pa_nil))) (pa_cons (pe_op op_mulW pe_int (pe_callG (ok__law_next T) (hr.mono (by decide)) hg (takes_of rfl rfl rfl rfl) rfl T.g__law_next T.k__law_next (pa_cons (pv 0) (pa_cons pe_int pa_nil)))) pa_nil)))))))))))))
        (pss_cons (ps_set (i := 4) nd rfl (.inl rfl) (pe_ix ix_list (pv 3) (pe_callG (ok__law_next T) (hr.mono (by decide)) hg (takes_of rfl rfl rfl rfl) rfl T.g__law_next T.k__law_next (pa_cons (pv 0) (pa_cons pe_int pa_nil))) (fun _ _ => rfl)))
        (pss_one (ps_ret (pe_ifExp (pt_cmpR op_eq (pe_callG (ok__law_next T) (hr.mono (by decide)) hg (takes_of rfl rfl rfl rfl) rfl T.g__law_next T.k__law_next (pa_cons (pv 0) (pa_cons pe_int pa_nil))) pe_int (nomark _)) (pe_op op_sub pe_int (pv 4)) (pv 4)))))))), ?_⟩
  refine ⟨_, rfl, _, _, rfl, d, _, 11, rfl, rfl, hD, by omega, by decide, by decide, fun m m0 m1 H2 D2 e2 => ⟨m, rfl, by omega, by omega, ?_⟩⟩
  have hm4 : m.toNat ≤ 10 := by omega
  refine for_range (lo := 0) (n := m.toNat) (fun i σ H' => ∃ g kv, σ = [some (.ref d), some (.int g), kv, none, none] ∧ Bd (10 + 131 * i) g ∧ DrawAt K H' d (n + 1 + i) ∧ Exb d H H') ⟨1, none, rfl, by unfold Bd; decide, D2.mono (by omega), e2⟩ ?_ ?_
  · rintro i σ H' hi ⟨g, kv, rfl, bg, D', e'⟩
    have p1 : CPow 10 39 := ⟨by decide, by decide, by decide⟩
    have b10 : Bd 130 (10 ^ (39 : Int).toNat) := by unfold Bd; decide
    have bm := bg.mul b10
    refine ⟨_, rfl, _, _, rfl, rfl, p1, _, _, rfl, rfl, wide_mul bg b10 (by omega) (by omega) (by omega), _, rfl, _, _, rfl, d, _, 1000, rfl, rfl, D', by omega, by decide, by decide, fun r' r0 r1 H3 D3 e3 => ⟨_, _, rfl, rfl, ?_⟩⟩
    refine ⟨_, _, rfl, ?_, D3.mono (by omega), e'.trans e3⟩
    have br : Bd 10 r' := by unfold Bd; omega
    exact (bm.add (br.mono (by omega))).mono (by omega)
  · rintro σ H' ⟨g, kv, rfl, bg, D', e'⟩
    refine ⟨_, rfl, _, rfl, _, _, rfl, d, _, 200, rfl, rfl, D', by omega, by decide, by decide, fun u u0 u1 H3 D3 e3 => ?_⟩
    refine ⟨_, rfl, _, _, rfl, d, _, 60, rfl, rfl, D3, by omega, by decide, by decide, fun w w0 w1 H4 D4 e4 => ?_⟩
    have bw : Bd 6 w := by unfold Bd; omega
    have b2 : Bd 2 2 := by unfold Bd; decide
    refine ⟨_, _, rfl, rfl, b2.mulW bw, sz5 (by simp), fun p hp => ?_⟩
    refine ⟨_, rfl, _, rfl, _, _, rfl, d, _, 11, rfl, rfl, D4.ex (Evl.Ex.new hp), by omega, by decide, by decide, fun r r0 r1 H5 D5 e5 => ?_⟩
    have cs := ((D4.ex (Evl.Ex.new hp)).car e5).l (K := K) (SqL.of upd_same)
    obtain ⟨v, hv, hm⟩ := atI_mem (xs := [.int 0, .int 1, .int 60, .int 61, .int 999, .int 1000, .int 999999, .int 1000000, .int g, .int u, .int (2 * w)]) r0 (by show r < 11; exact r1)
    have bg' : Bd 1400 g := bg.mono (by omega)
    have bu : Bd 1400 u := Bd.mono (m := 8) (by unfold Bd; omega) (by decide)
    have bw2 : Bd 1400 (2 * w) := (b2.mul bw).mono (by decide)
    obtain ⟨z, rfl, bz⟩ : ∃ z, v = .int z ∧ Bd 1400 z := by
      simp only [List.mem_cons, List.not_mem_nil, or_false] at hm
      rcases hm with rfl | rfl | rfl | rfl | rfl | rfl | rfl | rfl | rfl | rfl | rfl
      · exact ⟨_, rfl, Bd.mono (m := 20) (by unfold Bd; decide) (by decide)⟩
      · exact ⟨_, rfl, Bd.mono (m := 20) (by unfold Bd; decide) (by decide)⟩
      · exact ⟨_, rfl, Bd.mono (m := 20) (by unfold Bd; decide) (by decide)⟩
      · exact ⟨_, rfl, Bd.mono (m := 20) (by unfold Bd; decide) (by decide)⟩
      · exact ⟨_, rfl, Bd.mono (m := 20) (by unfold Bd; decide) (by decide)⟩
      · exact ⟨_, rfl, Bd.mono (m := 20) (by unfold Bd; decide) (by decide)⟩
      · exact ⟨_, rfl, Bd.mono (m := 20) (by unfold Bd; decide) (by decide)⟩
      · exact ⟨_, rfl, Bd.mono (m := 20) (by unfold Bd; decide) (by decide)⟩
      · exact ⟨_, rfl, bg'⟩
      · exact ⟨_, rfl, bu⟩
      · exact ⟨_, rfl, bw2⟩
    refine ⟨p, _, r, _, rfl, rfl, cs, hv, ?_⟩
    have e45 := ((e'.trans e3).trans e4).ex (Evl.Ex.new (o := .lst [.int 0, .int 1, .int 60, .int 61, .int 999, .int 1000, .int 999999, .int 1000000, .int g, .int u, .int (2 * w)]) hp)
    refine ⟨_, rfl, _, _, rfl, d, _, 4, rfl, rfl, D5, by omega, by decide, by decide, fun k k0 k1 H6 D6 e6 => ⟨rfl, _, rfl, iteB (fun _ => ?_) (fun _ => ?_)⟩⟩
    · exact ⟨_, rfl, _, _, rfl, rfl, q _ H6 (by rw [Int.zero_sub]; exact bz.neg) (D6.mono (by omega)) ((e45.trans e5).trans e6)⟩
    · exact ⟨_, rfl, q _ H6 bz (D6.mono (by omega)) ((e45.trans e5).trans e6)⟩
theorem ok__law_integer (T : Txt P K mg D) : CallG P w K mg base 3 D._law_integer [] (spInteger K) := by
  obtain ⟨fd, F, B⟩ := fb__law_integer (w := w) (base := base) T
  exact B.pos sp1_len (F.binds (ps := ["draw"]) fun _ _ _ _ _ _ us hl => match us, hl with | [_], _ => rfl)
abbrev N__law_thing : List Str := ["draw", "one", "other", "odd", "some"]
theorem sc__law_thing : FnScope N__law_thing ["draw"] (defScope s__law_thing) := ⟨rfl, rfl, rfl, by decide +kernel, rfl, by decide +kernel, by decide +kernel⟩
theorem odd_gd : ∀ d ∈ ([.none, .bool true, .bool false, .str "1", .tuple [.int 1], .list [.int 1], .str "", .tuple []] : List PyData), Gd 1 2000 d := by
  intro d hd
  have g1 : Gd 0 1921 (.int 1) := Gd.int (Bd.mono (m := 1) (by unfold Bd; decide) (by decide))
  have s1 : ∀ x ∈ ([.int 1] : List PyData), Gd 0 1921 x := fun x hx => by
    simp only [List.mem_cons, List.not_mem_nil, or_false] at hx
    rw [hx]
    exact g1
  simp only [List.mem_cons, List.not_mem_nil, or_false] at hd
  rcases hd with rfl | rfl | rfl | rfl | rfl | rfl | rfl | rfl
  · exact Gd.non.mono (by decide) (by decide)
  · exact Gd.bool.mono (by decide) (by decide)
  · exact Gd.bool.mono (by decide) (by decide)
  · exact (Gd.str (m := 2000) (by decide +kernel)).mono (by decide) (by decide)
  · exact (Gd.tup s1).mono (by decide) (by decide)
  · exact (Gd.lst s1).mono (by decide) (by decide)
  · exact (Gd.str (m := 2000) (by decide +kernel)).mono (by decide) (by decide)
  · exact (Gd.tup (k := 0) (m := 0) (ds := []) (fun x hx => by cases hx)).mono (by decide) (by decide)
def spThing (K : Frag) : Sp := sp1 fun x H Q _ => ∃ d n, x = .ref d ∧ DrawAt K H d n ∧ n < 2 ^ 48 ∧ ∀ v dd H', Dp K H' v dd → Gd 2 100000 dd → DrawAt K H' d (n + 50) → Exb d H H' → Q v H'
theorem fb__law_thing (T : Txt P K mg D) : ∃ fd, Fun K "_law_thing" "_law_thing" s__law_thing D._law_thing fd ∧ FnB P w K mg base 4 D._law_thing fd ["draw"] (spThing K) := by
  obtain ⟨fd, F⟩ := T.f__law_thing
  refine ⟨fd, F, Fun_okB (k := 3) F sc__law_thing fun cdv A outer s H vs Q E hr hg h => ?_⟩
  have nd := sc__law_thing.nd
  obtain ⟨x, rfl, d, n, rfl, hD, hn, q⟩ := h
  refine ⟨_, (pss_cons (ps_par rfl nd (i := 1) (j := 2) rfl rfl (by decide) rfl rfl (pa_cons (pe_callG (ok__law_integer T) (hr.mono (by decide)) hg (takes_of rfl rfl rfl rfl) rfl T.g__law_integer T.k__law_integer (pa_cons (pv 0) pa_nil)) (pa_cons (pe_callG (ok__law_integer T) (hr.mono (by decide)) hg (takes_of rfl rfl rfl rfl) rfl T.g__law_integer T.k__law_integer (pa_cons (pv 0) pa_nil)) pa_nil)) (by rfl))
        (pss_cons (ps_set (i := 3) nd rfl (.inl rfl) (pe_ix ix_list (pe_lst (pa_cons pe_non (pa_cons pe_bl (pa_cons pe_bl (pa_cons pe_str (pa_cons (pe_tup (pa_cons pe_int pa_nil)) (pa_cons (pe_lst (pa_cons pe_int pa_nil)) (pa_cons pe_str (pa_cons (pe_tup pa_nil) pa_nil))))))))) (pe_callG (ok__law_next T) (hr.mono (by decide)) hg (takes_of rfl rfl rfl rfl) rfl T.g__law_next T.k__law_next (pa_cons (pv 0) (pa_cons pe_int pa_nil))) (fun _ _ => rfl)))
        (pss_cons (ps_set (i := 4) nd rfl (.inl rfl) (pe_lst (pa_cons (pe_tup (pa_cons (pv 1) (pa_cons (pv 2) pa_nil))) (pa_cons (pe_tup (pa_cons (pv 1) (pa_cons (pe_callB (call_max2 rfl) rfl T.n_max (by decide +kernel) (pa_cons pe_int (pa_cons (pv 2) pa_nil))) pa_nil))) (pa_cons (pe_tup (pa_cons (pv 1) (pa_cons pe_int pa_nil))) (pa_cons (pe_tup (pa_cons pe_int (pa_cons (pv 2) pa_nil))) (pa_cons (pe_tup (pa_cons pe_int (pa_cons (pv 2) pa_nil))) (pa_cons (pe_tup (pa_cons (pv 1) (pa_cons (pv 3) pa_nil))) (pa_cons (pe_tup (pa_cons (pv 3) (pa_cons (pv 2) pa_nil))) pa_nil)))))))))
        (pss_cons (ps_set (i := 4) nd rfl (.inl rfl) (pe_op op_catL (pv 4) (pe_lst (pa_cons (pe_tup (pa_cons (pv 1) (pa_cons (pv 2) (pa_cons pe_int pa_nil)))) (pa_cons (pe_tup (pa_cons (pv 1) pa_nil)) (pa_cons (pe_lst (pa_cons (pv 1) (pa_cons (pv 2) pa_nil))) (pa_cons (pv 3) (pa_cons (pv 1) (pa_cons (pe_tup (pa_cons (pe_op op_mulW pe_int (pv 1)) (pa_cons pe_int pa_nil))) (pa_cons (pe_tup (pa_cons (pv 2) (pa_cons pe_int pa_nil))) pa_nil))))))))))
        (pss_one (ps_ret (pe_ix ix_list (pv 4) (pe_callG (ok__law_next T) (hr.mono (by decide)) hg (takes_of rfl rfl rfl rfl) rfl T.g__law_next T.k__law_next (pa_cons (pv 0) (pa_cons pe_int pa_nil))) (fun _ _ => rfl)))))))), ?_⟩
  have W := hD
  have e : Exb d H H := Exb.refl
  have b2 : Bd 1 1 := by unfold Bd; decide
  have b2 : Bd 2 2 := by unfold Bd; decide
  refine ⟨_, rfl, _, rfl, d, _, rfl, W, by omega, fun a H' ba D' e' => ?_⟩
  have c := W.car e'
  have e := e.trans e'
  have W := D'
  refine ⟨_, rfl, _, rfl, d, _, rfl, W, by omega, fun b H' bb D' e' => ?_⟩
  have c := W.car e'
  have e := e.trans e'
  have W := D'
  refine ⟨_, _, rfl, sz5 (by simp), fun o1 h_o1 => ?_⟩
  have d_o1 := Dp.tupN (K := K) h_o1 ((.cons (.int (1)) .nil) : DpAll K _ ([.int (1)] : List V) ([.int (1)] : List PyData))
  have W := W.ex (Evl.Ex.new (o := HO.tup [.int (1)]) h_o1)
  have e := Exb.ex e (Evl.Ex.new (o := HO.tup [.int (1)]) h_o1)
  refine ⟨sz5 (by simp), fun o2 h_o2 => ?_⟩
  have d_o2 := Dp.lstN (K := K) h_o2 ((.cons (.int (1)) .nil) : DpAll K _ ([.int (1)] : List V) ([.int (1)] : List PyData))
  have d_o1 := Dp.new (HO.lst [.int (1)]) h_o2 d_o1
  have W := W.ex (Evl.Ex.new (o := HO.lst [.int (1)]) h_o2)
  have e := Exb.ex e (Evl.Ex.new (o := HO.lst [.int (1)]) h_o2)
  refine ⟨sz5 (by simp), fun o3 h_o3 => ?_⟩
  have d_o3 := Dp.tupN (K := K) h_o3 (.nil : DpAll K _ ([] : List V) ([] : List PyData))
  have d_o1 := Dp.new (HO.tup []) h_o3 d_o1
  have d_o2 := Dp.new (HO.tup []) h_o3 d_o2
  have W := W.ex (Evl.Ex.new (o := HO.tup []) h_o3)
  have e := Exb.ex e (Evl.Ex.new (o := HO.tup []) h_o3)
  refine ⟨sz5 (by simp), fun ol h_ol => ?_⟩
  have d_ol := Dp.lstN (K := K) h_ol ((.cons .non (.cons (.bl true) (.cons (.bl false) (.cons (.str "1") (.cons d_o1 (.cons d_o2 (.cons (.str "") (.cons d_o3 .nil)))))))) : DpAll K _ ([.non, .bl true, .bl false, .str "1", .ref o1, .ref o2, .str "", .ref o3] : List V) ([.none, .bool true, .bool false, .str "1", .tuple [.int (1)], .list [.int (1)], .str "", .tuple []] : List PyData))
  have d_o1 := Dp.new (HO.lst [.non, .bl true, .bl false, .str "1", .ref o1, .ref o2, .str "", .ref o3]) h_ol d_o1
  have d_o2 := Dp.new (HO.lst [.non, .bl true, .bl false, .str "1", .ref o1, .ref o2, .str "", .ref o3]) h_ol d_o2
  have d_o3 := Dp.new (HO.lst [.non, .bl true, .bl false, .str "1", .ref o1, .ref o2, .str "", .ref o3]) h_ol d_o3
  have W := W.ex (Evl.Ex.new (o := HO.lst [.non, .bl true, .bl false, .str "1", .ref o1, .ref o2, .str "", .ref o3]) h_ol)
  have e := Exb.ex e (Evl.Ex.new (o := HO.lst [.non, .bl true, .bl false, .str "1", .ref o1, .ref o2, .str "", .ref o3]) h_ol)
  refine ⟨_, rfl, _, _, rfl, d, _, 8, rfl, rfl, W, by omega, by decide, by decide, fun r r0 r1 H' D' e' => ?_⟩
  have c := W.car e'
  have d_o1 := c.d d_o1
  have d_o2 := c.d d_o2
  have d_o3 := c.d d_o3
  have d_ol := c.d d_ol
  have e := e.trans e'
  have W := D'
  obtain ⟨_, hl_od, dl_od⟩ := lst_inv d_ol
  obtain ⟨od, odd, hx_od, d_od, hp_od⟩ := pick dl_od r0 (by rw [Rm.DpAll.len dl_od]; exact r1) odd_gd
  refine ⟨ol, _, r, od, rfl, rfl, hl_od, hx_od, ?_⟩
  clear d_o1 d_o2 d_o3 d_ol
  refine ⟨_, rfl, _, rfl, sz5 (by simp), fun t1 h_t1 => ?_⟩
  have d_t1 := Dp.tupN (K := K) h_t1 ((.cons (.int (a)) (.cons (.int (b)) .nil)) : DpAll K _ ([.int (a), .int (b)] : List V) ([.int (a), .int (b)] : List PyData))
  have d_od := Dp.new (HO.tup [.int (a), .int (b)]) h_t1 d_od
  have W := W.ex (Evl.Ex.new (o := HO.tup [.int (a), .int (b)]) h_t1)
  have e := Exb.ex e (Evl.Ex.new (o := HO.tup [.int (a), .int (b)]) h_t1)
  refine ⟨_, rfl, _, rfl, _, _, rfl, sz5 (by simp), fun t2 h_t2 => ?_⟩
  have d_t2 := Dp.tupN (K := K) h_t2 ((.cons (.int (a)) (.cons (.int (if b > 1 then b else 1)) .nil)) : DpAll K _ ([.int (a), .int (if b > 1 then b else 1)] : List V) ([.int (a), .int (if b > 1 then b else 1)] : List PyData))
  have d_od := Dp.new (HO.tup [.int (a), .int (if b > 1 then b else 1)]) h_t2 d_od
  have d_t1 := Dp.new (HO.tup [.int (a), .int (if b > 1 then b else 1)]) h_t2 d_t1
  have W := W.ex (Evl.Ex.new (o := HO.tup [.int (a), .int (if b > 1 then b else 1)]) h_t2)
  have e := Exb.ex e (Evl.Ex.new (o := HO.tup [.int (a), .int (if b > 1 then b else 1)]) h_t2)
  refine ⟨_, rfl, sz5 (by simp), fun t3 h_t3 => ?_⟩
  have d_t3 := Dp.tupN (K := K) h_t3 ((.cons (.int (a)) (.cons (.int (1)) .nil)) : DpAll K _ ([.int (a), .int (1)] : List V) ([.int (a), .int (1)] : List PyData))
  have d_od := Dp.new (HO.tup [.int (a), .int (1)]) h_t3 d_od
  have d_t1 := Dp.new (HO.tup [.int (a), .int (1)]) h_t3 d_t1
  have d_t2 := Dp.new (HO.tup [.int (a), .int (1)]) h_t3 d_t2
  have W := W.ex (Evl.Ex.new (o := HO.tup [.int (a), .int (1)]) h_t3)
  have e := Exb.ex e (Evl.Ex.new (o := HO.tup [.int (a), .int (1)]) h_t3)
  refine ⟨_, rfl, sz5 (by simp), fun t4 h_t4 => ?_⟩
  have d_t4 := Dp.tupN (K := K) h_t4 ((.cons (.int (1)) (.cons (.int (b)) .nil)) : DpAll K _ ([.int (1), .int (b)] : List V) ([.int (1), .int (b)] : List PyData))
  have d_od := Dp.new (HO.tup [.int (1), .int (b)]) h_t4 d_od
  have d_t1 := Dp.new (HO.tup [.int (1), .int (b)]) h_t4 d_t1
  have d_t2 := Dp.new (HO.tup [.int (1), .int (b)]) h_t4 d_t2
  have d_t3 := Dp.new (HO.tup [.int (1), .int (b)]) h_t4 d_t3
  have W := W.ex (Evl.Ex.new (o := HO.tup [.int (1), .int (b)]) h_t4)
  have e := Exb.ex e (Evl.Ex.new (o := HO.tup [.int (1), .int (b)]) h_t4)
  refine ⟨_, rfl, sz5 (by simp), fun t5 h_t5 => ?_⟩
  have d_t5 := Dp.tupN (K := K) h_t5 ((.cons (.int (0)) (.cons (.int (b)) .nil)) : DpAll K _ ([.int (0), .int (b)] : List V) ([.int (0), .int (b)] : List PyData))
  have d_od := Dp.new (HO.tup [.int (0), .int (b)]) h_t5 d_od
  have d_t1 := Dp.new (HO.tup [.int (0), .int (b)]) h_t5 d_t1
  have d_t2 := Dp.new (HO.tup [.int (0), .int (b)]) h_t5 d_t2
  have d_t3 := Dp.new (HO.tup [.int (0), .int (b)]) h_t5 d_t3
  have d_t4 := Dp.new (HO.tup [.int (0), .int (b)]) h_t5 d_t4
  have W := W.ex (Evl.Ex.new (o := HO.tup [.int (0), .int (b)]) h_t5)
  have e := Exb.ex e (Evl.Ex.new (o := HO.tup [.int (0), .int (b)]) h_t5)
  refine ⟨_, rfl, _, rfl, sz5 (by simp), fun t6 h_t6 => ?_⟩
  have d_t6 := Dp.tupN (K := K) h_t6 ((.cons (.int (a)) (.cons d_od .nil)) : DpAll K _ ([.int (a), od] : List V) ([.int (a), odd] : List PyData))
  have d_od := Dp.new (HO.tup [.int (a), od]) h_t6 d_od
  have d_t1 := Dp.new (HO.tup [.int (a), od]) h_t6 d_t1
  have d_t2 := Dp.new (HO.tup [.int (a), od]) h_t6 d_t2
  have d_t3 := Dp.new (HO.tup [.int (a), od]) h_t6 d_t3
  have d_t4 := Dp.new (HO.tup [.int (a), od]) h_t6 d_t4
  have d_t5 := Dp.new (HO.tup [.int (a), od]) h_t6 d_t5
  have W := W.ex (Evl.Ex.new (o := HO.tup [.int (a), od]) h_t6)
  have e := Exb.ex e (Evl.Ex.new (o := HO.tup [.int (a), od]) h_t6)
  refine ⟨_, rfl, _, rfl, sz5 (by simp), fun t7 h_t7 => ?_⟩
  have d_t7 := Dp.tupN (K := K) h_t7 ((.cons d_od (.cons (.int (b)) .nil)) : DpAll K _ ([od, .int (b)] : List V) ([odd, .int (b)] : List PyData))
  have d_od := Dp.new (HO.tup [od, .int (b)]) h_t7 d_od
  have d_t1 := Dp.new (HO.tup [od, .int (b)]) h_t7 d_t1
  have d_t2 := Dp.new (HO.tup [od, .int (b)]) h_t7 d_t2
  have d_t3 := Dp.new (HO.tup [od, .int (b)]) h_t7 d_t3
  have d_t4 := Dp.new (HO.tup [od, .int (b)]) h_t7 d_t4
  have d_t5 := Dp.new (HO.tup [od, .int (b)]) h_t7 d_t5
  have d_t6 := Dp.new (HO.tup [od, .int (b)]) h_t7 d_t6
  have W := W.ex (Evl.Ex.new (o := HO.tup [od, .int (b)]) h_t7)
  have e := Exb.ex e (Evl.Ex.new (o := HO.tup [od, .int (b)]) h_t7)
  refine ⟨sz5 (by simp), fun l1 h_l1 => ?_⟩
  have d_l1 := Dp.lstN (K := K) h_l1 ((.cons d_t1 (.cons d_t2 (.cons d_t3 (.cons d_t4 (.cons d_t5 (.cons d_t6 (.cons d_t7 .nil))))))) : DpAll K _ ([.ref t1, .ref t2, .ref t3, .ref t4, .ref t5, .ref t6, .ref t7] : List V) ([.tuple [.int (a), .int (b)], .tuple [.int (a), .int (if b > 1 then b else 1)], .tuple [.int (a), .int (1)], .tuple [.int (1), .int (b)], .tuple [.int (0), .int (b)], .tuple [.int (a), odd], .tuple [odd, .int (b)]] : List PyData))
  have d_od := Dp.new (HO.lst [.ref t1, .ref t2, .ref t3, .ref t4, .ref t5, .ref t6, .ref t7]) h_l1 d_od
  have d_t1 := Dp.new (HO.lst [.ref t1, .ref t2, .ref t3, .ref t4, .ref t5, .ref t6, .ref t7]) h_l1 d_t1
  have d_t2 := Dp.new (HO.lst [.ref t1, .ref t2, .ref t3, .ref t4, .ref t5, .ref t6, .ref t7]) h_l1 d_t2
  have d_t3 := Dp.new (HO.lst [.ref t1, .ref t2, .ref t3, .ref t4, .ref t5, .ref t6, .ref t7]) h_l1 d_t3
  have d_t4 := Dp.new (HO.lst [.ref t1, .ref t2, .ref t3, .ref t4, .ref t5, .ref t6, .ref t7]) h_l1 d_t4
  have d_t5 := Dp.new (HO.lst [.ref t1, .ref t2, .ref t3, .ref t4, .ref t5, .ref t6, .ref t7]) h_l1 d_t5
  have d_t6 := Dp.new (HO.lst [.ref t1, .ref t2, .ref t3, .ref t4, .ref t5, .ref t6, .ref t7]) h_l1 d_t6
  have d_t7 := Dp.new (HO.lst [.ref t1, .ref t2, .ref t3, .ref t4, .ref t5, .ref t6, .ref t7]) h_l1 d_t7
  have W := W.ex (Evl.Ex.new (o := HO.lst [.ref t1, .ref t2, .ref t3, .ref t4, .ref t5, .ref t6, .ref t7]) h_l1)
  have e := Exb.ex e (Evl.Ex.new (o := HO.lst [.ref t1, .ref t2, .ref t3, .ref t4, .ref t5, .ref t6, .ref t7]) h_l1)
  refine ⟨_, rfl, _, rfl, _, rfl, sz5 (by simp), fun t8 h_t8 => ?_⟩
  have d_t8 := Dp.tupN (K := K) h_t8 ((.cons (.int (a)) (.cons (.int (b)) (.cons (.int (1)) .nil))) : DpAll K _ ([.int (a), .int (b), .int (1)] : List V) ([.int (a), .int (b), .int (1)] : List PyData))
  have d_od := Dp.new (HO.tup [.int (a), .int (b), .int (1)]) h_t8 d_od
  have d_t1 := Dp.new (HO.tup [.int (a), .int (b), .int (1)]) h_t8 d_t1
  have d_t2 := Dp.new (HO.tup [.int (a), .int (b), .int (1)]) h_t8 d_t2
  have d_t3 := Dp.new (HO.tup [.int (a), .int (b), .int (1)]) h_t8 d_t3
  have d_t4 := Dp.new (HO.tup [.int (a), .int (b), .int (1)]) h_t8 d_t4
  have d_t5 := Dp.new (HO.tup [.int (a), .int (b), .int (1)]) h_t8 d_t5
  have d_t6 := Dp.new (HO.tup [.int (a), .int (b), .int (1)]) h_t8 d_t6
  have d_t7 := Dp.new (HO.tup [.int (a), .int (b), .int (1)]) h_t8 d_t7
  have d_l1 := Dp.new (HO.tup [.int (a), .int (b), .int (1)]) h_t8 d_l1
  have W := W.ex (Evl.Ex.new (o := HO.tup [.int (a), .int (b), .int (1)]) h_t8)
  have e := Exb.ex e (Evl.Ex.new (o := HO.tup [.int (a), .int (b), .int (1)]) h_t8)
  refine ⟨_, rfl, sz5 (by simp), fun t9 h_t9 => ?_⟩
  have d_t9 := Dp.tupN (K := K) h_t9 ((.cons (.int (a)) .nil) : DpAll K _ ([.int (a)] : List V) ([.int (a)] : List PyData))
  have d_od := Dp.new (HO.tup [.int (a)]) h_t9 d_od
  have d_t1 := Dp.new (HO.tup [.int (a)]) h_t9 d_t1
  have d_t2 := Dp.new (HO.tup [.int (a)]) h_t9 d_t2
  have d_t3 := Dp.new (HO.tup [.int (a)]) h_t9 d_t3
  have d_t4 := Dp.new (HO.tup [.int (a)]) h_t9 d_t4
  have d_t5 := Dp.new (HO.tup [.int (a)]) h_t9 d_t5
  have d_t6 := Dp.new (HO.tup [.int (a)]) h_t9 d_t6
  have d_t7 := Dp.new (HO.tup [.int (a)]) h_t9 d_t7
  have d_l1 := Dp.new (HO.tup [.int (a)]) h_t9 d_l1
  have d_t8 := Dp.new (HO.tup [.int (a)]) h_t9 d_t8
  have W := W.ex (Evl.Ex.new (o := HO.tup [.int (a)]) h_t9)
  have e := Exb.ex e (Evl.Ex.new (o := HO.tup [.int (a)]) h_t9)
  refine ⟨_, rfl, _, rfl, sz5 (by simp), fun t10 h_t10 => ?_⟩
  have d_t10 := Dp.lstN (K := K) h_t10 ((.cons (.int (a)) (.cons (.int (b)) .nil)) : DpAll K _ ([.int (a), .int (b)] : List V) ([.int (a), .int (b)] : List PyData))
  have d_od := Dp.new (HO.lst [.int (a), .int (b)]) h_t10 d_od
  have d_t1 := Dp.new (HO.lst [.int (a), .int (b)]) h_t10 d_t1
  have d_t2 := Dp.new (HO.lst [.int (a), .int (b)]) h_t10 d_t2
  have d_t3 := Dp.new (HO.lst [.int (a), .int (b)]) h_t10 d_t3
  have d_t4 := Dp.new (HO.lst [.int (a), .int (b)]) h_t10 d_t4
  have d_t5 := Dp.new (HO.lst [.int (a), .int (b)]) h_t10 d_t5
  have d_t6 := Dp.new (HO.lst [.int (a), .int (b)]) h_t10 d_t6
  have d_t7 := Dp.new (HO.lst [.int (a), .int (b)]) h_t10 d_t7
  have d_l1 := Dp.new (HO.lst [.int (a), .int (b)]) h_t10 d_l1
  have d_t8 := Dp.new (HO.lst [.int (a), .int (b)]) h_t10 d_t8
  have d_t9 := Dp.new (HO.lst [.int (a), .int (b)]) h_t10 d_t9
  have W := W.ex (Evl.Ex.new (o := HO.lst [.int (a), .int (b)]) h_t10)
  have e := Exb.ex e (Evl.Ex.new (o := HO.lst [.int (a), .int (b)]) h_t10)
  refine ⟨_, rfl, _, rfl, _, rfl, _, _, rfl, rfl, (b2.mulW ba), sz5 (by simp), fun t11 h_t11 => ?_⟩
  have d_t11 := Dp.tupN (K := K) h_t11 ((.cons (.int (2 * a)) (.cons (.int (2)) .nil)) : DpAll K _ ([.int (2 * a), .int (2)] : List V) ([.int (2 * a), .int (2)] : List PyData))
  have d_od := Dp.new (HO.tup [.int (2 * a), .int (2)]) h_t11 d_od
  have d_t1 := Dp.new (HO.tup [.int (2 * a), .int (2)]) h_t11 d_t1
  have d_t2 := Dp.new (HO.tup [.int (2 * a), .int (2)]) h_t11 d_t2
  have d_t3 := Dp.new (HO.tup [.int (2 * a), .int (2)]) h_t11 d_t3
  have d_t4 := Dp.new (HO.tup [.int (2 * a), .int (2)]) h_t11 d_t4
  have d_t5 := Dp.new (HO.tup [.int (2 * a), .int (2)]) h_t11 d_t5
  have d_t6 := Dp.new (HO.tup [.int (2 * a), .int (2)]) h_t11 d_t6
  have d_t7 := Dp.new (HO.tup [.int (2 * a), .int (2)]) h_t11 d_t7
  have d_l1 := Dp.new (HO.tup [.int (2 * a), .int (2)]) h_t11 d_l1
  have d_t8 := Dp.new (HO.tup [.int (2 * a), .int (2)]) h_t11 d_t8
  have d_t9 := Dp.new (HO.tup [.int (2 * a), .int (2)]) h_t11 d_t9
  have d_t10 := Dp.new (HO.tup [.int (2 * a), .int (2)]) h_t11 d_t10
  have W := W.ex (Evl.Ex.new (o := HO.tup [.int (2 * a), .int (2)]) h_t11)
  have e := Exb.ex e (Evl.Ex.new (o := HO.tup [.int (2 * a), .int (2)]) h_t11)
  refine ⟨_, rfl, sz5 (by simp), fun t12 h_t12 => ?_⟩
  have d_t12 := Dp.tupN (K := K) h_t12 ((.cons (.int (b)) (.cons (.int (60)) .nil)) : DpAll K _ ([.int (b), .int (60)] : List V) ([.int (b), .int (60)] : List PyData))
  have d_od := Dp.new (HO.tup [.int (b), .int (60)]) h_t12 d_od
  have d_t1 := Dp.new (HO.tup [.int (b), .int (60)]) h_t12 d_t1
  have d_t2 := Dp.new (HO.tup [.int (b), .int (60)]) h_t12 d_t2
  have d_t3 := Dp.new (HO.tup [.int (b), .int (60)]) h_t12 d_t3
  have d_t4 := Dp.new (HO.tup [.int (b), .int (60)]) h_t12 d_t4
  have d_t5 := Dp.new (HO.tup [.int (b), .int (60)]) h_t12 d_t5
  have d_t6 := Dp.new (HO.tup [.int (b), .int (60)]) h_t12 d_t6
  have d_t7 := Dp.new (HO.tup [.int (b), .int (60)]) h_t12 d_t7
  have d_l1 := Dp.new (HO.tup [.int (b), .int (60)]) h_t12 d_l1
  have d_t8 := Dp.new (HO.tup [.int (b), .int (60)]) h_t12 d_t8
  have d_t9 := Dp.new (HO.tup [.int (b), .int (60)]) h_t12 d_t9
  have d_t10 := Dp.new (HO.tup [.int (b), .int (60)]) h_t12 d_t10
  have d_t11 := Dp.new (HO.tup [.int (b), .int (60)]) h_t12 d_t11
  have W := W.ex (Evl.Ex.new (o := HO.tup [.int (b), .int (60)]) h_t12)
  have e := Exb.ex e (Evl.Ex.new (o := HO.tup [.int (b), .int (60)]) h_t12)
  refine ⟨sz5 (by simp), fun l2 h_l2 => ?_⟩
  have d_l2 := Dp.lstN (K := K) h_l2 ((.cons d_t8 (.cons d_t9 (.cons d_t10 (.cons d_od (.cons (.int (a)) (.cons d_t11 (.cons d_t12 .nil))))))) : DpAll K _ ([.ref t8, .ref t9, .ref t10, od, .int (a), .ref t11, .ref t12] : List V) ([.tuple [.int (a), .int (b), .int (1)], .tuple [.int (a)], .list [.int (a), .int (b)], odd, .int (a), .tuple [.int (2 * a), .int (2)], .tuple [.int (b), .int (60)]] : List PyData))
  have d_od := Dp.new (HO.lst [.ref t8, .ref t9, .ref t10, od, .int (a), .ref t11, .ref t12]) h_l2 d_od
  have d_t1 := Dp.new (HO.lst [.ref t8, .ref t9, .ref t10, od, .int (a), .ref t11, .ref t12]) h_l2 d_t1
  have d_t2 := Dp.new (HO.lst [.ref t8, .ref t9, .ref t10, od, .int (a), .ref t11, .ref t12]) h_l2 d_t2
  have d_t3 := Dp.new (HO.lst [.ref t8, .ref t9, .ref t10, od, .int (a), .ref t11, .ref t12]) h_l2 d_t3
  have d_t4 := Dp.new (HO.lst [.ref t8, .ref t9, .ref t10, od, .int (a), .ref t11, .ref t12]) h_l2 d_t4
  have d_t5 := Dp.new (HO.lst [.ref t8, .ref t9, .ref t10, od, .int (a), .ref t11, .ref t12]) h_l2 d_t5
  have d_t6 := Dp.new (HO.lst [.ref t8, .ref t9, .ref t10, od, .int (a), .ref t11, .ref t12]) h_l2 d_t6
  have d_t7 := Dp.new (HO.lst [.ref t8, .ref t9, .ref t10, od, .int (a), .ref t11, .ref t12]) h_l2 d_t7
  have d_l1 := Dp.new (HO.lst [.ref t8, .ref t9, .ref t10, od, .int (a), .ref t11, .ref t12]) h_l2 d_l1
  have d_t8 := Dp.new (HO.lst [.ref t8, .ref t9, .ref t10, od, .int (a), .ref t11, .ref t12]) h_l2 d_t8
  have d_t9 := Dp.new (HO.lst [.ref t8, .ref t9, .ref t10, od, .int (a), .ref t11, .ref t12]) h_l2 d_t9
  have d_t10 := Dp.new (HO.lst [.ref t8, .ref t9, .ref t10, od, .int (a), .ref t11, .ref t12]) h_l2 d_t10
  have d_t11 := Dp.new (HO.lst [.ref t8, .ref t9, .ref t10, od, .int (a), .ref t11, .ref t12]) h_l2 d_t11
  have d_t12 := Dp.new (HO.lst [.ref t8, .ref t9, .ref t10, od, .int (a), .ref t11, .ref t12]) h_l2 d_t12
  have W := W.ex (Evl.Ex.new (o := HO.lst [.ref t8, .ref t9, .ref t10, od, .int (a), .ref t11, .ref t12]) h_l2)
  have e := Exb.ex e (Evl.Ex.new (o := HO.lst [.ref t8, .ref t9, .ref t10, od, .int (a), .ref t11, .ref t12]) h_l2)
  obtain ⟨va_l3, sa_l3, aa_l3⟩ := lst_inv d_l1
  obtain ⟨vb_l3, sb_l3, ab_l3⟩ := lst_inv d_l2
  refine ⟨l1, l2, va_l3, vb_l3, rfl, rfl, sa_l3, sb_l3, by rw [Rm.DpAll.len aa_l3, Rm.DpAll.len ab_l3]; exact sz5 (by simp), fun l3 h_l3 => ?_⟩
  have d_l3 := Dp.lstN (K := K) h_l3 (DpAll.app aa_l3 ab_l3)
  have d_od := Dp.new (HO.lst (va_l3 ++ vb_l3)) h_l3 d_od
  have d_t1 := Dp.new (HO.lst (va_l3 ++ vb_l3)) h_l3 d_t1
  have d_t2 := Dp.new (HO.lst (va_l3 ++ vb_l3)) h_l3 d_t2
  have d_t3 := Dp.new (HO.lst (va_l3 ++ vb_l3)) h_l3 d_t3
  have d_t4 := Dp.new (HO.lst (va_l3 ++ vb_l3)) h_l3 d_t4
  have d_t5 := Dp.new (HO.lst (va_l3 ++ vb_l3)) h_l3 d_t5
  have d_t6 := Dp.new (HO.lst (va_l3 ++ vb_l3)) h_l3 d_t6
  have d_t7 := Dp.new (HO.lst (va_l3 ++ vb_l3)) h_l3 d_t7
  have d_l1 := Dp.new (HO.lst (va_l3 ++ vb_l3)) h_l3 d_l1
  have d_t8 := Dp.new (HO.lst (va_l3 ++ vb_l3)) h_l3 d_t8
  have d_t9 := Dp.new (HO.lst (va_l3 ++ vb_l3)) h_l3 d_t9
  have d_t10 := Dp.new (HO.lst (va_l3 ++ vb_l3)) h_l3 d_t10
  have d_t11 := Dp.new (HO.lst (va_l3 ++ vb_l3)) h_l3 d_t11
  have d_t12 := Dp.new (HO.lst (va_l3 ++ vb_l3)) h_l3 d_t12
  have d_l2 := Dp.new (HO.lst (va_l3 ++ vb_l3)) h_l3 d_l2
  have W := W.ex (Evl.Ex.new (o := HO.lst (va_l3 ++ vb_l3)) h_l3)
  have e := Exb.ex e (Evl.Ex.new (o := HO.lst (va_l3 ++ vb_l3)) h_l3)
  clear d_t1 d_t2 d_t3 d_t4 d_t5 d_t6 d_t7 d_t8 d_t9 d_t10 d_t11 d_t12 d_l1 d_l2
  refine ⟨_, rfl, _, rfl, _, _, rfl, d, _, 14, rfl, rfl, W, by omega, by decide, by decide, fun k k0 k1 H' D' e' => ?_⟩
  have c := W.car e'
  have d_od := c.d d_od
  have d_l3 := c.d d_l3
  have e := e.trans e'
  have W := D'
  have gi : ∀ {i : Int}, Bd 1402 i → Gd 1 2000 (.int i) := fun h => (Gd.int (h.mono (by decide))).mono (by decide) (by decide)
  have ga : Gd 1 2000 (.int a) := gi (ba.mono (by decide))
  have gb : Gd 1 2000 (.int b) := gi (bb.mono (by decide))
  have g1 : ∀ {i : Int}, Bd 20 i → Gd 1 2000 (.int i) := fun h => gi (h.mono (by decide))
  have gs : ∀ {i : Int}, i.natAbs < 1000 → Gd 1 2000 (.int i) := fun h => g1 (by unfold Bd; omega)
  have g2 : Gd 1 2000 (.int (2 * a)) := gi ((b2.mul ba).mono (by decide))
  have gm : Gd 1 2000 (.int (if b > 1 then b else 1)) := by split <;> first | exact gb | exact gs (by decide)
  have w2 : ∀ {x y : PyData}, Gd 1 2000 x → Gd 1 2000 y → Gd 2 100000 (.tuple [x, y]) := fun h1 h2 => (Gd.tup (fun d hd => by simp only [List.mem_cons, List.not_mem_nil, or_false] at hd; rcases hd with rfl | rfl <;> assumption)).mono (by decide) (by simp)
  obtain ⟨_, hl_v, dl_v⟩ := lst_inv d_l3
  obtain ⟨v, dv, hx_v, d_v, hp_v⟩ := pick dl_v k0 (by rw [Rm.DpAll.len dl_v]; exact k1) (by
    intro x hx
    simp only [List.cons_append, List.nil_append, List.mem_cons, List.not_mem_nil, or_false] at hx
    rcases hx with rfl | rfl | rfl | rfl | rfl | rfl | rfl | rfl | rfl | rfl | rfl | rfl | rfl | rfl
    · exact w2 ga gb
    · exact w2 ga gm
    · exact w2 ga (gs (by decide))
    · exact w2 (gs (by decide)) gb
    · exact w2 (gs (by decide)) gb
    · exact w2 ga hp_od
    · exact w2 hp_od gb
    · exact (Gd.tup (fun d hd => by simp only [List.mem_cons, List.not_mem_nil, or_false] at hd; rcases hd with rfl | rfl | rfl <;> first | assumption | exact gs (by decide))).mono (by decide) (by simp)
    · exact (Gd.tup (fun d hd => by simp only [List.mem_cons, List.not_mem_nil, or_false] at hd; rcases hd with rfl; exact ga)).mono (by decide) (by simp)
    · exact (Gd.lst (fun d hd => by simp only [List.mem_cons, List.not_mem_nil, or_false] at hd; rcases hd with rfl | rfl <;> assumption)).mono (by decide) (by simp)
    · exact hp_od.mono (by decide) (by decide)
    · exact ga.mono (by decide) (by decide)
    · exact w2 g2 (gs (by decide))
    · exact w2 gb (gs (by decide)) : ∀ x ∈ _, Gd 2 100000 x)
  refine ⟨l3, _, k, v, rfl, rfl, hl_v, hx_v, ?_⟩
  exact q v dv _ d_v hp_v (W.mono (by omega)) e
theorem ok__law_thing (T : Txt P K mg D) : CallG P w K mg base 4 D._law_thing [] (spThing K) := by
  obtain ⟨fd, F, B⟩ := fb__law_thing (w := w) (base := base) T
  exact B.pos sp1_len (F.binds (ps := ["draw"]) fun _ _ _ _ _ _ us hl => match us, hl with | [_], _ => rfl)
abbrev N__law_told : List Str := ["what", "caught", "found", "e"]
theorem sc__law_told : FnScope N__law_told ["what"] (defScope s__law_told) := ⟨rfl, rfl, rfl, by decide +kernel, rfl, by decide +kernel, by decide +kernel⟩
def spTold (K : Frag) : Sp := sp1 fun x H Q _ => ∃ d, Dp K H x d ∧ Gd 2 100000 d ∧ (∀ a b, d = .tuple [.int a, .int b] → IsNum a b → ∀ p H', Ex H H' → Dp K H' (.ref p) (.list [.str "text", .str (ntext a b)]) → Q (.ref p) H') ∧
  (isNumD d = false → ∀ p H', Ex H H' → Dp K H' (.ref p) (.list [.str "number", d]) → Q (.ref p) H')
theorem fb__law_told (T : Txt P K mg D) : ∃ fd, Fun K "_law_told" "_law_told" s__law_told D._law_told fd ∧ FnB P w K mg base 5 D._law_told fd ["what"] (spTold K) := by
  obtain ⟨fd, F⟩ := T.f__law_told
  refine ⟨fd, F, Fun_okB (k := 4) F sc__law_told fun cdv A outer s H vs Q E hr hg h => ?_⟩
  have nd := sc__law_told.nd
  obtain ⟨x, rfl, d, hd, hgd, qn, qe⟩ := h
  refine ⟨_, (pss_cons (ps_asg (pe_tup (pa_cons pe_non (pa_cons pe_non pa_nil))) (pg_tup rfl (pgs_cons (pg_name (i := 1) nd rfl (.inl rfl)) (pgs_cons (pg_name (i := 2) nd rfl (.inl rfl)) pgs_nil))))
        (pss_cons (ps_try_caught (i := 3) (j := 1) rfl rfl nd rfl rfl rfl rfl ⟨rfl, by decide, .inl T.g_PaceError⟩ ⟨rfl, by decide, .inl T.g_StateError⟩ ⟨rfl, by decide, .inl T.g_MissingError⟩ (takes_of rfl rfl rfl rfl) (fun W pn xe tk' _ => (pss_one (ps_set (i := 2) nd rfl (.inl rfl) (pe_callGK0 (ok_number_text_value T) (hr.mono (by decide)) hg tk' rfl T.g_number_text T.k_number_text (pk_cons (pv 0) pk_nil))))))
        (pss_cons (ps_if (pt_cmpR op_isN (pv 1) pe_non (nomark _)) (pss_one (ps_ret (pe_lst (pa_cons pe_str (pa_cons (pv 2) pa_nil))))) pss_nil)
        (pss_one (ps_ret (pe_ifExp (pt_val (pe_callB call_isX rfl T.n_isinstance (by decide +kernel) (pa_cons (pv 1) (pa_cons (pe_glob (v := .ref D.InvalidNumber) rfl T.g_InvalidNumber rfl) pa_nil)))) (pe_lst (pa_cons pe_str (pa_cons (pe_xat (pv 1)) pa_nil))) (pe_lst (pa_cons pe_str pa_nil)))))))), ?_⟩
  refine ⟨sz5 (by simp), fun t0 ht0 => ⟨_, _, rfl, SqT.of upd_same, rfl, _, _, rfl, _, _, rfl, rfl, ?_⟩⟩
  have e0 := Evl.Ex.new (o := .tup [.non, .non]) ht0
  replace hd := (Car.ex e0).d hd
  replace qn := fun a b e i p H' e1 => qn a b e i p H' (e0.trans e1)
  replace qe := fun e p H' e1 => qe e p H' (e0.trans e1)
  refine ⟨_, rfl, rfl, rfl, _, rfl, d, hd, fun hno dd H1 e1 hdd => ⟨true, T.e_InvalidNumber, fun _ a ha => ?_, fun z => by cases z⟩, fun p q e i => ?_⟩
  · have hd' : upd H1 a (xV a (.ref D.InvalidNumber) (some dd) false) dd = some (.xd [("thing", x)]) := by rw [upd_ne (ne_of_none hdd ha)]; exact hdd
    have ha' : upd H1 a (xV a (.ref D.InvalidNumber) (some dd) false) a = some (xV a (.ref D.InvalidNumber) (some dd) false) := upd_same
    have lk : List.lookup ("thing" : Str) [(("thing" : Str), x)] = some x := by kernel_rfl
    refine ⟨_, rfl, rfl, _, rfl, iteF ⟨_, rfl, a, _, dd, _, _, _, _, _, rfl, .own _, ha', hd', T.t_InvalidNumber, T.i_InvalidNumber, _, rfl, iteT ⟨_, rfl, a, _, dd, _, _, _, rfl, ha', hd', T.t_InvalidNumber, T.h_InvalidNumber, lk, sz5 (by show 2 ≤ 1000; decide), fun p hp => ?_⟩⟩⟩
    exact qe hno p _ (e1.trans ((Evl.Ex.new (o := xV a (.ref D.InvalidNumber) (some dd) false) ha).trans (Evl.Ex.new hp))) (Dp.lstN hp (.cons (.str "number") (.cons ((Car.ex (e1.trans (Evl.Ex.new ha))).d hd) .nil)))
  · subst e
    obtain ⟨l1, l2⟩ := hgd.num_log
    refine ⟨l1, l2, fun H1 e1 => ⟨_, rfl, rfl, _, rfl, iteT ⟨_, rfl, sz5 (by show 2 ≤ 1000; decide), fun t ht => ?_⟩⟩⟩
    exact qn p q rfl i t _ (e1.trans (Evl.Ex.new ht)) (Dp.lstN ht (.cons (.str "text") (.cons (.str _) .nil)))
theorem ok__law_told (T : Txt P K mg D) : CallG P w K mg base 5 D._law_told [] (spTold K) := by
  obtain ⟨fd, F, B⟩ := fb__law_told (w := w) (base := base) T
  exact B.pos sp1_len (F.binds (ps := ["what"]) fun _ _ _ _ _ _ us hl => match us, hl with | [_], _ => rfl)
abbrev N__law_quotient : List Str := ["one", "other", "caught", "found", "e"]
theorem sc__law_quotient : FnScope N__law_quotient ["one", "other"] (defScope s__law_quotient) := ⟨rfl, rfl, rfl, by decide +kernel, rfl, by decide +kernel, by decide +kernel⟩
def spQuot (K : Frag) : Sp := sp2 fun x y H Q _ => ∃ dx dy, Dp K H x dx ∧ Dp K H y dy ∧ (∀ b, dy = .int b → Bd 9000 b) ∧ ∀ p H', Ex H H' → Dp K H' (.ref p) (quotD dx dy) → Q (.ref p) H'
theorem fb__law_quotient (T : Txt P K mg D) : ∃ fd, Fun K "_law_quotient" "_law_quotient" s__law_quotient D._law_quotient fd ∧ FnB P w K mg base 4 D._law_quotient fd ["one", "other"] (spQuot K) := by
  obtain ⟨fd, F⟩ := T.f__law_quotient
  refine ⟨fd, F, Fun_okB (k := 3) F sc__law_quotient fun cdv A outer s H vs Q E hr hg h => ?_⟩
  have nd := sc__law_quotient.nd
  obtain ⟨x, y, rfl, dx, dy, hx, hy, hb, qq⟩ := h
  refine ⟨_, (pss_cons (ps_asg (pe_tup (pa_cons pe_non (pa_cons pe_non pa_nil))) (pg_tup rfl (pgs_cons (pg_name (i := 2) nd rfl (.inl rfl)) (pgs_cons (pg_name (i := 3) nd rfl (.inl rfl)) pgs_nil))))
        (pss_cons (ps_try_caught (i := 4) (j := 2) rfl rfl nd rfl rfl rfl rfl ⟨rfl, by decide, .inl T.g_PaceError⟩ ⟨rfl, by decide, .inl T.g_StateError⟩ ⟨rfl, by decide, .inl T.g_MissingError⟩ (takes_of rfl rfl rfl rfl) (fun W pn xe tk' _ => (pss_one (ps_set (i := 3) nd rfl (.inl rfl) (pe_callGK0 (ok_number_below_above T) (hr.mono (by decide)) hg tk' rfl T.g_number T.k_number (pk_cons (pv 1) (pk_cons (pv 0) pk_nil)))))))
        (pss_cons (ps_if (pt_cmpR op_isN (pv 2) pe_non (nomark _)) (pss_one (ps_ret (pe_lst (pa_cons pe_str (pa_cons (pv 3) pa_nil))))) pss_nil)
        (pss_one (ps_ret (pe_ifExp (pt_val (pe_callB call_isX rfl T.n_isinstance (by decide +kernel) (pa_cons (pv 2) (pa_cons (pe_glob (v := .ref D.InvalidNumber) rfl T.g_InvalidNumber rfl) pa_nil)))) (pe_lst (pa_cons pe_str (pa_cons (pe_xat (pv 2)) pa_nil))) (pe_lst (pa_cons pe_str pa_nil)))))))), ?_⟩
  refine ⟨sz5 (by simp), fun t0 ht0 => ⟨_, _, rfl, SqT.of upd_same, rfl, _, _, rfl, _, _, rfl, rfl, ?_⟩⟩
  have e0 := Evl.Ex.new (o := .tup [.non, .non]) ht0
  replace hx := (Car.ex e0).d hx
  replace hy := (Car.ex e0).d hy
  replace qq := fun p H' e1 => qq p H' (e0.trans e1)
  refine ⟨_, rfl, _, rfl, rfl, rfl, _, _, rfl, dx, dy, hx, hy, fun a b ea eb h0 => ?_, fun hc t H1 ht eH dd H2 e2 hdd => ⟨true, T.e_InvalidNumber, fun _ a ha => ?_, fun z => by cases z⟩⟩
  · subst ea eb
    refine ⟨hb b rfl, fun p H1 hp e1 h1 => ⟨_, rfl, rfl, _, rfl, iteT ⟨_, rfl, sz5 (by show 2 ≤ 1000; decide), fun t ht => ?_⟩⟩⟩
    refine qq t _ (e1.trans (Evl.Ex.new ht)) ?_
    rw [quotD_is h0]
    exact Dp.lstN ht (.cons (.str "made") (.cons (NumAt.new (K := K) h1).d .nil))
  · have hd' : upd H2 a (xV a (.ref D.InvalidNumber) (some dd) false) dd = some (.xd [("thing", (V.ref t))]) := by rw [upd_ne (ne_of_none hdd ha)]; exact hdd
    have ha' : upd H2 a (xV a (.ref D.InvalidNumber) (some dd) false) a = some (xV a (.ref D.InvalidNumber) (some dd) false) := upd_same
    have lk : List.lookup ("thing" : Str) [(("thing" : Str), (V.ref t))] = some (V.ref t) := by kernel_rfl
    refine ⟨_, rfl, rfl, _, rfl, iteF ⟨_, rfl, a, _, dd, _, _, _, _, _, rfl, .own _, ha', hd', T.t_InvalidNumber, T.i_InvalidNumber, _, rfl, iteT ⟨_, rfl, a, _, dd, _, _, _, rfl, ha', hd', T.t_InvalidNumber, T.h_InvalidNumber, lk, sz5 (by show 2 ≤ 1000; decide), fun p hp => ?_⟩⟩⟩
    subst eH
    have e3 := (Evl.Ex.new (o := .tup [x, y]) ht).trans e2
    have e4 := e3.trans (Evl.Ex.new (o := xV a (.ref D.InvalidNumber) (some dd) false) ha)
    refine qq p _ (e4.trans (Evl.Ex.new hp)) ?_
    rw [quotD_no hc]
    have tt : Dp K _ (.ref t) (.tuple [dx, dy]) := Dp.tupN ht (.cons hx (.cons hy .nil))
    exact Dp.lstN hp (.cons (.str "number") (.cons ((Car.ex (e2.trans (Evl.Ex.new ha))).d tt) .nil))
theorem ok__law_quotient (T : Txt P K mg D) : CallG P w K mg base 4 D._law_quotient [] (spQuot K) := by
  obtain ⟨fd, F, B⟩ := fb__law_quotient (w := w) (base := base) T
  exact B.pos sp2_len (F.binds (ps := ["one", "other"]) fun _ _ _ _ _ _ us hl => match us, hl with | [_, _], _ => rfl)
abbrev N__law_due : List Str := ["one", "other", "divisor"]
theorem sc__law_due : FnScope N__law_due ["one", "other"] (defScope s__law_due) := ⟨rfl, rfl, rfl, by decide +kernel, rfl, by decide +kernel, by decide +kernel⟩
theorem fb__law_due (T : Txt P K mg D) : ∃ fd, Fun K "_law_due" "_law_due" s__law_due D._law_due fd ∧ FnB P w K mg base 2 D._law_due fd ["one", "other"] (spQuot K) := by
  obtain ⟨fd, F⟩ := T.f__law_due
  refine ⟨fd, F, Fun_okB (k := 1) F sc__law_due fun cdv A outer s H vs Q E hr hg h => ?_⟩
  have nd := sc__law_due.nd
  obtain ⟨x, y, rfl, dx, dy, hx, hy, hb, qq⟩ := h
  refine ⟨_, (pss_cons (ps_if (PW.pt (pw_or (pt_not (pt_val (pe_callG (ok__law_is_integer T) (hr.mono (by decide)) hg (takes_of rfl rfl rfl rfl) rfl T.g__law_is_integer T.k__law_is_integer (pa_cons (pv 0) pa_nil)))) (pw_or (pt_not (pt_val (pe_callG (ok__law_is_integer T) (hr.mono (by decide)) hg (takes_of rfl rfl rfl rfl) rfl T.g__law_is_integer T.k__law_is_integer (pa_cons (pv 1) pa_nil)))) (pw_or1 (pt_cmpR op_eq (pv 1) pe_int (nomark _)))))) (pss_one (ps_ret (pe_lst (pa_cons pe_str (pa_cons (pe_tup (pa_cons (pv 0) (pa_cons (pv 1) pa_nil))) pa_nil))))) pss_nil)
        (pss_cons (ps_set (i := 2) nd rfl (.inl rfl) (pe_ifExp (pt_cmpR op_gt (pv 1) pe_int (nomark _)) (pe_callG (ok__law_divisor T) (hr.mono (by decide)) hg (takes_of rfl rfl rfl rfl) rfl T.g__law_divisor T.k__law_divisor (pa_cons (pv 0) (pa_cons (pv 1) pa_nil))) (pe_op op_sub pe_int (pe_callG (ok__law_divisor T) (hr.mono (by decide)) hg (takes_of rfl rfl rfl rfl) rfl T.g__law_divisor T.k__law_divisor (pa_cons (pv 0) (pa_cons (pv 1) pa_nil))))))
        (pss_one (ps_ret (pe_lst (pa_cons pe_str (pa_cons (pe_tup (pa_cons (pe_op op_fdivS (pv 0) (pv 2)) (pa_cons (pe_op op_fdivS (pv 1) (pv 2)) pa_nil))) pa_nil))))))), ?_⟩
  have ref : ∀ (hc : ∀ a b, dx = .int a → dy = .int b → b = 0) (t : Addr), H t = none → ∀ p, upd H t (.tup [x, y]) p = none → Q (.ref p) (upd (upd H t (.tup [x, y])) p (.lst [.str "number", .ref t])) := fun hc t ht p hp => by
    refine qq p _ ((Evl.Ex.new ht).trans (Evl.Ex.new hp)) ?_
    rw [quotD_no hc]
    exact Dp.lstN hp (.cons (.str "number") (.cons (Dp.tupN (K := K) ht (.cons hx (.cons hy .nil))) .nil))
  refine ⟨_, rfl, _, rfl, dx, hx, _, rfl, iteB (fun c => ?_) (fun c => ?_)⟩
  · have c' : isIntD dx = false := by simpa using c
    exact iteT ⟨_, rfl, _, rfl, sz5 (by simp), fun t ht => ⟨sz5 (by simp), fun p hp => ref (fun a b e _ => by rw [e] at c'; cases c') t ht p hp⟩⟩
  · obtain ⟨a, rfl⟩ := isIntD_inv (by simpa using c)
    refine ⟨_, rfl, _, rfl, dy, hy, _, rfl, iteB (fun c => ?_) (fun c => ?_)⟩
    · have c' : isIntD dy = false := by simpa using c
      exact iteT ⟨_, rfl, _, rfl, sz5 (by simp), fun t ht => ⟨sz5 (by simp), fun p hp => ref (fun a b _ e => by rw [e] at c'; cases c') t ht p hp⟩⟩
    · obtain ⟨b, rfl⟩ := isIntD_inv (by simpa using c)
      cases hx
      cases hy
      refine ⟨_, rfl, rfl, _, rfl, iteB (fun c => ?_) (fun c => ?_)⟩
      · have hb0 : b = 0 := V.int.inj (of_decide_eq_true c)
        exact ⟨_, rfl, _, rfl, sz5 (by simp), fun t ht => ⟨sz5 (by simp), fun p hp => ref (fun a' b' _ e => by cases e; exact hb0) t ht p hp⟩⟩
      · have hb0 : b ≠ 0 := fun z => of_decide_eq_false c (by rw [z])
        have hB := hb b rfl
        have hdv : Bd 9000 (dv a b) := by
          unfold Bd
          rw [dv_abs]
          exact Nat.lt_of_le_of_lt (Nat.le_of_dvd (by omega) (by unfold Int.gcd; exact Nat.gcd_dvd_right _ _)) hB
        have fin : ∀ H1, Ex H H1 → ∀ g : Int, g = dv a b → ∀ σ : L2.St, σ = [some (.int a), some (.int b), some (.int g)] → tRet (tLst (tCons (tC (.str "made")) (tCons (tTup (tCons (tOp (rI CDivS fun i j => .int (i.fdiv j)) (tVar 0) (tVar 2)) (tCons (tOp (rI CDivS fun i j => .int (i.fdiv j)) (tVar 1) (tVar 2)) tNil))) tNil))) { nx := fun _ H' => Q .non H', rt := Q } σ H1 := by
          rintro H1 e1 g rfl σ rfl
          refine ⟨_, rfl, _, rfl, _, _, rfl, rfl, hdv.fdiv (dv_ne hb0), _, rfl, _, rfl, _, _, rfl, rfl, hdv.fdiv (dv_ne hb0), sz5 (by simp), fun t ht => ⟨sz5 (by simp), fun p hp => ?_⟩⟩
          refine qq p _ (e1.trans ((Evl.Ex.new ht).trans (Evl.Ex.new hp))) ?_
          rw [quotD_is hb0]
          exact Dp.lstN hp (.cons (.str "made") (.cons (Dp.tupN (K := K) ht (.cons (.int _) (.cons (.int _) .nil))) .nil))
        refine ⟨_, rfl, _, _, rfl, rfl, _, rfl, iteB (fun c => ?_) (fun c => ?_)⟩
        · have hp : b > 0 := of_decide_eq_true c
          exact ⟨_, rfl, _, rfl, _, _, rfl, a, b, rfl, rfl, fun H1 e1 => fin H1 e1 _ (by unfold dv; rw [if_neg (by omega)]) _ rfl⟩
        · have hp : ¬ b > 0 := of_decide_eq_false c
          exact ⟨_, rfl, _, rfl, _, _, rfl, a, b, rfl, rfl, fun H1 e1 => ⟨_, _, rfl, rfl, fin H1 e1 _ (by unfold dv; rw [if_pos (by omega)]; omega) _ rfl⟩⟩
theorem ok__law_due (T : Txt P K mg D) : CallG P w K mg base 2 D._law_due [] (spQuot K) := by
  obtain ⟨fd, F, B⟩ := fb__law_due (w := w) (base := base) T
  exact B.pos sp2_len (F.binds (ps := ["one", "other"]) fun _ _ _ _ _ _ us hl => match us, hl with | [_, _], _ => rfl)
abbrev N__law_right : List Str := ["what", "due", "got", "named", "is_zero", "text"]
theorem sc__law_right : FnScope N__law_right ["what"] (defScope s__law_right) := ⟨rfl, rfl, rfl, by decide +kernel, rfl, by decide +kernel, by decide +kernel⟩
def spRight (K : Frag) : Sp := sp1 fun x H Q _ => ∃ d, Dp K H x d ∧ Gd 2 100000 d ∧ ∀ H', Ex H H' → Q (.bl true) H'
theorem fb__law_right (T : Txt P K mg D) : ∃ fd, Fun K "_law_right" "_law_right" s__law_right D._law_right fd ∧ FnB P w K mg base 7 D._law_right fd ["what"] (spRight K) := by
  obtain ⟨fd, F⟩ := T.f__law_right
  refine ⟨fd, F, Fun_okB (k := 6) F sc__law_right fun cdv A outer s H vs Q E hr hg h => ?_⟩
  have nd := sc__law_right.nd
  obtain ⟨x, rfl, d, hd, hgd, hq⟩ := h
  refine ⟨_, (pss_cons (ps_set (i := 1) nd rfl (.inl rfl) (pe_lst (pa_cons (pe_callG (ok__law_is_number T) (hr.mono (by decide)) hg (takes_of rfl rfl rfl rfl) rfl T.g__law_is_number T.k__law_is_number (pa_cons (pv 0) pa_nil)) (pa_cons (pe_callG (ok__law_is_within T) (hr.mono (by decide)) hg (takes_of rfl rfl rfl rfl) rfl T.g__law_is_within T.k__law_is_within (pa_cons (pv 0) (pa_cons pe_int (pa_cons pe_int pa_nil)))) (pa_cons (pe_callG (ok__law_is_within T) (hr.mono (by decide)) hg (takes_of rfl rfl rfl rfl) rfl T.g__law_is_within T.k__law_is_within (pa_cons (pv 0) (pa_cons pe_int (pa_cons pe_int pa_nil)))) pa_nil)))))
        (pss_cons (ps_par rfl nd (i := 2) (j := 3) rfl rfl (by decide) rfl rfl (pa_cons (pe_lst (pa_cons (pe_callG (ok_is_number T) (hr.mono (by decide)) hg (takes_of rfl rfl rfl rfl) rfl T.g_is_number T.k_is_number (pa_cons (pv 0) pa_nil)) (pa_cons (pe_callG (ok_is_factor T) (hr.mono (by decide)) hg (takes_of rfl rfl rfl rfl) rfl T.g_is_factor T.k_is_factor (pa_cons (pv 0) pa_nil)) (pa_cons (pe_callG (ok_is_length T) (hr.mono (by decide)) hg (takes_of rfl rfl rfl rfl) rfl T.g_is_length T.k_is_length (pa_cons (pv 0) pa_nil)) pa_nil)))) (pa_cons (pe_lst (pa_cons (pe_callGK0 (ok_is_number_thing T) (hr.mono (by decide)) hg (takes_of rfl rfl rfl rfl) rfl T.g_is_number T.k_is_number (pk_cons (pv 0) pk_nil)) (pa_cons (pe_callGK0 (ok_is_factor_thing T) (hr.mono (by decide)) hg (takes_of rfl rfl rfl rfl) rfl T.g_is_factor T.k_is_factor (pk_cons (pv 0) pk_nil)) pa_nil))) pa_nil)) (by rfl))
        (pss_cons (ps_if (PW.pt (pw_or (pt_cmpR op_ne (pe_callB (call_reprD hr hg) rfl T.n_repr (by decide +kernel) (pa_cons (pv 2) pa_nil)) (pe_callB (call_reprD hr hg) rfl T.n_repr (by decide +kernel) (pa_cons (pv 1) pa_nil)) (nomark _)) (pw_or1 (pt_cmpR op_ne (pe_callB (call_reprD hr hg) rfl T.n_repr (by decide +kernel) (pa_cons (pe_op op_catL (pv 3) (pe_lst (pa_cons (pe_callGK0 (ok_is_length_thing T) (hr.mono (by decide)) hg (takes_of rfl rfl rfl rfl) rfl T.g_is_length T.k_is_length (pk_cons (pv 0) pk_nil)) pa_nil))) pa_nil)) (pe_callB (call_reprD hr hg) rfl T.n_repr (by decide +kernel) (pa_cons (pv 1) pa_nil)) (nomark _))))) (pss_one (ps_ret pe_bl)) pss_nil)
        (pss_cons (ps_set (i := 4) nd rfl (.inl rfl) (pe_and (pe_ix ix_list (pv 1) pe_int (fun _ _ => rfl)) (pe_one (pe_cmpR op_eq (pe_ix ix_tup (pv 0) pe_int (fun _ _ => rfl)) pe_int (nomark _)))))
        (pss_cons (ps_if (pt_cmpR op_ne (pe_callB (call_reprD hr hg) rfl T.n_repr (by decide +kernel) (pa_cons (pe_lst (pa_cons (pe_callG (ok_is_pace T) (hr.mono (by decide)) hg (takes_of rfl rfl rfl rfl) rfl T.g_is_pace T.k_is_pace (pa_cons (pv 0) pa_nil)) (pa_cons (pe_callGK0 (ok_is_pace_thing T) (hr.mono (by decide)) hg (takes_of rfl rfl rfl rfl) rfl T.g_is_pace T.k_is_pace (pk_cons (pv 0) pk_nil)) pa_nil))) pa_nil)) (pe_callB (call_reprD hr hg) rfl T.n_repr (by decide +kernel) (pa_cons (pe_op op_rep (pe_lst (pa_cons (pe_or (pe_ix ix_list (pv 1) pe_int (fun _ _ => rfl)) (pe_one (pv 4))) pa_nil)) pe_int) pa_nil)) (nomark _)) (pss_one (ps_ret pe_bl)) pss_nil)
        (pss_cons (ps_if (pt_not (pt_val (pe_ix ix_list (pv 1) pe_int (fun _ _ => rfl)))) (pss_one (ps_ret (pe_cmpR op_eq (pe_callB (call_reprD hr hg) rfl T.n_repr (by decide +kernel) (pa_cons (pe_callG (ok__law_told T) (hr.mono (by decide)) hg (takes_of rfl rfl rfl rfl) rfl T.g__law_told T.k__law_told (pa_cons (pv 0) pa_nil)) pa_nil)) (pe_callB (call_reprD hr hg) rfl T.n_repr (by decide +kernel) (pa_cons (pe_lst (pa_cons pe_str (pa_cons (pv 0) pa_nil))) pa_nil)) (nomark _)))) pss_nil)
        (pss_cons (ps_set (i := 5) nd rfl (.inl rfl) (pe_ifExp (pt_cmpR op_eq (pe_ix ix_tup (pv 0) pe_int (fun _ _ => rfl)) pe_int (nomark _)) (pe_callTy call_str_int rfl T.n_str (by decide +kernel) (pa_cons (pe_ix ix_tup (pv 0) pe_int (fun _ _ => rfl)) pa_nil)) (pe_op op_add_str (pe_op op_add_str (pe_callTy call_str_int rfl T.n_str (by decide +kernel) (pa_cons (pe_ix ix_tup (pv 0) pe_int (fun _ _ => rfl)) pa_nil)) pe_str) (pe_callTy call_str_int rfl T.n_str (by decide +kernel) (pa_cons (pe_ix ix_tup (pv 0) pe_int (fun _ _ => rfl)) pa_nil)))))
        (pss_one (ps_ret (pe_and (pe_cmpR (op_eqD hr.units) (pe_callG (ok__law_told T) (hr.mono (by decide)) hg (takes_of rfl rfl rfl rfl) rfl T.g__law_told T.k__law_told (pa_cons (pv 0) pa_nil)) (pe_lst (pa_cons pe_str (pa_cons (pv 5) pa_nil))) (nomark _)) (pe_one (pe_cmpR op_eq (pe_callB (call_reprD hr hg) rfl T.n_repr (by decide +kernel) (pa_cons (pe_callG (ok_number T) (hr.mono (by decide)) hg (takes_of rfl rfl rfl rfl) rfl T.g_number T.k_number (pa_cons (pe_ix ix_tup (pv 0) pe_int (fun _ _ => rfl)) (pa_cons (pe_ix ix_tup (pv 0) pe_int (fun _ _ => rfl)) pa_nil))) pa_nil)) (pe_callB (call_reprD hr hg) rfl T.n_repr (by decide +kernel) (pa_cons (pv 0) pa_nil)) (nomark _))))))))))))), ?_⟩
  have d_x := hd
  have e : Ex H H := Evl.Ex.refl H
  refine ⟨_, rfl, _, rfl, d, d_x, fun H' e' => ?_⟩
  have d_x := (Car.ex e').d d_x
  have e := e.trans e'
  refine ⟨_, rfl, _, _, _, rfl, d, _, _, d_x, rfl, rfl, fun H' e' => ?_⟩
  have d_x := (Car.ex e').d d_x
  have e := e.trans e'
  refine ⟨_, rfl, _, _, _, rfl, d, _, _, d_x, rfl, rfl, fun H' e' => ?_⟩
  have d_x := (Car.ex e').d d_x
  have e := e.trans e'
  refine ⟨sz5 (by simp), fun du h_du => ?_⟩
  have d_du := Dp.lstN (K := K) h_du ((.cons (.bl (isNumD d)) (.cons (.bl (hasPartsD d 60 60)) (.cons (.bl (hasPartsD d 999999 999)) .nil))) : DpAll K _ ([.bl (isNumD d), .bl (hasPartsD d 60 60), .bl (hasPartsD d 999999 999)] : List V) ([.bool (isNumD d), .bool (hasPartsD d 60 60), .bool (hasPartsD d 999999 999)] : List PyData))
  have d_x := Dp.new (HO.lst [.bl (isNumD d), .bl (hasPartsD d 60 60), .bl (hasPartsD d 999999 999)]) h_du d_x
  have e := e.trans (Evl.Ex.new (o := HO.lst [.bl (isNumD d), .bl (hasPartsD d 60 60), .bl (hasPartsD d 999999 999)]) h_du)
  have s_du := SqL_new (K := K) (vs := ([.bl (isNumD d), .bl (hasPartsD d 60 60), .bl (hasPartsD d 999999 999)] : List V)) h_du
  refine ⟨_, rfl, _, rfl, d, d_x, fun H' e' => ?_⟩
  have d_x := (Car.ex e').d d_x
  have d_du := (Car.ex e').d d_du
  have s_du := (Car.ex e').l s_du
  have e := e.trans e'
  refine ⟨_, rfl, _, rfl, d, d_x, fun H' e' => ?_⟩
  have d_x := (Car.ex e').d d_x
  have d_du := (Car.ex e').d d_du
  have s_du := (Car.ex e').l s_du
  have e := e.trans e'
  refine ⟨_, rfl, _, rfl, d, d_x, fun H' e' => ?_⟩
  have d_x := (Car.ex e').d d_x
  have d_du := (Car.ex e').d d_du
  have s_du := (Car.ex e').l s_du
  have e := e.trans e'
  refine ⟨sz5 (by simp), fun g1 h_g1 => ?_⟩
  have d_g1 := Dp.lstN (K := K) h_g1 ((.cons (.bl (isNumD d)) (.cons (.bl (hasPartsD d 60 60)) (.cons (.bl (hasPartsD d 999999 999)) .nil))) : DpAll K _ ([.bl (isNumD d), .bl (hasPartsD d 60 60), .bl (hasPartsD d 999999 999)] : List V) ([.bool (isNumD d), .bool (hasPartsD d 60 60), .bool (hasPartsD d 999999 999)] : List PyData))
  have d_x := Dp.new (HO.lst [.bl (isNumD d), .bl (hasPartsD d 60 60), .bl (hasPartsD d 999999 999)]) h_g1 d_x
  have d_du := Dp.new (HO.lst [.bl (isNumD d), .bl (hasPartsD d 60 60), .bl (hasPartsD d 999999 999)]) h_g1 d_du
  have s_du := (Car.ex (Evl.Ex.new (o := HO.lst [.bl (isNumD d), .bl (hasPartsD d 60 60), .bl (hasPartsD d 999999 999)]) h_g1)).l s_du
  have e := e.trans (Evl.Ex.new (o := HO.lst [.bl (isNumD d), .bl (hasPartsD d 60 60), .bl (hasPartsD d 999999 999)]) h_g1)
  refine ⟨_, rfl, rfl, rfl, _, rfl, d, d_x, fun H' e' => ?_⟩
  have d_x := (Car.ex e').d d_x
  have d_du := (Car.ex e').d d_du
  have d_g1 := (Car.ex e').d d_g1
  have s_du := (Car.ex e').l s_du
  have e := e.trans e'
  refine ⟨_, rfl, rfl, rfl, _, rfl, d, d_x, fun H' e' => ?_⟩
  have d_x := (Car.ex e').d d_x
  have d_du := (Car.ex e').d d_du
  have d_g1 := (Car.ex e').d d_g1
  have s_du := (Car.ex e').l s_du
  have e := e.trans e'
  refine ⟨sz5 (by simp), fun nm h_nm => ?_⟩
  have d_nm := Dp.lstN (K := K) h_nm ((.cons (.bl (isNumD d)) (.cons (.bl (hasPartsD d 60 60)) .nil)) : DpAll K _ ([.bl (isNumD d), .bl (hasPartsD d 60 60)] : List V) ([.bool (isNumD d), .bool (hasPartsD d 60 60)] : List PyData))
  have d_x := Dp.new (HO.lst [.bl (isNumD d), .bl (hasPartsD d 60 60)]) h_nm d_x
  have d_du := Dp.new (HO.lst [.bl (isNumD d), .bl (hasPartsD d 60 60)]) h_nm d_du
  have d_g1 := Dp.new (HO.lst [.bl (isNumD d), .bl (hasPartsD d 60 60)]) h_nm d_g1
  have s_du := (Car.ex (Evl.Ex.new (o := HO.lst [.bl (isNumD d), .bl (hasPartsD d 60 60)]) h_nm)).l s_du
  have e := e.trans (Evl.Ex.new (o := HO.lst [.bl (isNumD d), .bl (hasPartsD d 60 60)]) h_nm)
  have gb : Gd 100 16000000 (.list [.bool (isNumD d), .bool (hasPartsD d 60 60), .bool (hasPartsD d 999999 999)]) := (Gd.lst (k := 0) (m := 5) (fun x hx => by simp only [List.mem_cons, List.not_mem_nil, or_false] at hx; rcases hx with rfl | rfl | rfl <;> exact Gd.bool)).mono (by decide) (by simp)
  refine ⟨_, _, rfl, _, rfl, _, _, rfl, d_g1, gb.s, gb.n, gb.p, gb.l, _, rfl, _, _, rfl, d_du, gb.s, gb.n, gb.p, gb.l, rfl, _, rfl, iteB (fun c => absurd c (by simp)) (fun _ => ?_)⟩
  refine ⟨_, rfl, _, rfl, rfl, rfl, _, rfl, d, d_x, fun H' e' => ?_⟩
  have d_x := (Car.ex e').d d_x
  have d_du := (Car.ex e').d d_du
  have d_g1 := (Car.ex e').d d_g1
  have d_nm := (Car.ex e').d d_nm
  have s_du := (Car.ex e').l s_du
  have e := e.trans e'
  refine ⟨sz5 (by simp), fun s1 h_s1 => ?_⟩
  have d_s1 := Dp.lstN (K := K) h_s1 ((.cons (.bl (hasPartsD d 999999 999)) .nil) : DpAll K _ ([.bl (hasPartsD d 999999 999)] : List V) ([.bool (hasPartsD d 999999 999)] : List PyData))
  have d_x := Dp.new (HO.lst [.bl (hasPartsD d 999999 999)]) h_s1 d_x
  have d_du := Dp.new (HO.lst [.bl (hasPartsD d 999999 999)]) h_s1 d_du
  have d_g1 := Dp.new (HO.lst [.bl (hasPartsD d 999999 999)]) h_s1 d_g1
  have d_nm := Dp.new (HO.lst [.bl (hasPartsD d 999999 999)]) h_s1 d_nm
  have s_du := (Car.ex (Evl.Ex.new (o := HO.lst [.bl (hasPartsD d 999999 999)]) h_s1)).l s_du
  have e := e.trans (Evl.Ex.new (o := HO.lst [.bl (hasPartsD d 999999 999)]) h_s1)
  obtain ⟨va_n3, sa_n3, aa_n3⟩ := lst_inv d_nm
  obtain ⟨vb_n3, sb_n3, ab_n3⟩ := lst_inv d_s1
  refine ⟨nm, s1, va_n3, vb_n3, rfl, rfl, sa_n3, sb_n3, by rw [Rm.DpAll.len aa_n3, Rm.DpAll.len ab_n3]; exact sz5 (by simp), fun n3 h_n3 => ?_⟩
  have d_n3 := Dp.lstN (K := K) h_n3 (DpAll.app aa_n3 ab_n3)
  have d_x := Dp.new (HO.lst (va_n3 ++ vb_n3)) h_n3 d_x
  have d_du := Dp.new (HO.lst (va_n3 ++ vb_n3)) h_n3 d_du
  have d_g1 := Dp.new (HO.lst (va_n3 ++ vb_n3)) h_n3 d_g1
  have d_nm := Dp.new (HO.lst (va_n3 ++ vb_n3)) h_n3 d_nm
  have d_s1 := Dp.new (HO.lst (va_n3 ++ vb_n3)) h_n3 d_s1
  have s_du := (Car.ex (Evl.Ex.new (o := HO.lst (va_n3 ++ vb_n3)) h_n3)).l s_du
  have e := e.trans (Evl.Ex.new (o := HO.lst (va_n3 ++ vb_n3)) h_n3)
  refine ⟨_, _, rfl, d_n3, gb.s, gb.n, gb.p, gb.l, _, rfl, _, _, rfl, d_du, gb.s, gb.n, gb.p, gb.l, rfl, _, rfl, iteB (fun c => absurd c (by simp)) (fun _ => ?_)⟩
  clear d_g1 d_nm d_s1 d_n3
  cases hnum : isNumD d with
  | false =>
    refine ⟨_, rfl, _, _, _, _, rfl, rfl, s_du, rfl, _, rfl, iteB (fun c => absurd c (by rw [hnum]; simp)) (fun _ => ?_)⟩
    refine ⟨_, rfl, _, rfl, d, d_x, fun H' e' => ?_⟩
    have d_x := (Car.ex e').d d_x
    have d_du := (Car.ex e').d d_du
    have s_du := (Car.ex e').l s_du
    have e := e.trans e'
    refine ⟨_, rfl, rfl, rfl, _, rfl, d, d_x, fun H' e' => ?_⟩
    have d_x := (Car.ex e').d d_x
    have d_du := (Car.ex e').d d_du
    have s_du := (Car.ex e').l s_du
    have e := e.trans e'
    refine ⟨sz5 (by simp), fun pp h_pp => ?_⟩
    have d_pp := Dp.lstN (K := K) h_pp ((.cons (.bl (isPaceD d)) (.cons (.bl (isPaceD d)) .nil)) : DpAll K _ ([.bl (isPaceD d), .bl (isPaceD d)] : List V) ([.bool (isPaceD d), .bool (isPaceD d)] : List PyData))
    have d_x := Dp.new (HO.lst [.bl (isPaceD d), .bl (isPaceD d)]) h_pp d_x
    have d_du := Dp.new (HO.lst [.bl (isPaceD d), .bl (isPaceD d)]) h_pp d_du
    have s_du := (Car.ex (Evl.Ex.new (o := HO.lst [.bl (isPaceD d), .bl (isPaceD d)]) h_pp)).l s_du
    have e := e.trans (Evl.Ex.new (o := HO.lst [.bl (isPaceD d), .bl (isPaceD d)]) h_pp)
    have gp : ∀ b : Bool, Gd 100 16000000 (.list [.bool b, .bool b]) := fun b => (Gd.two Gd.bool Gd.bool).mono (by decide) (by decide)
    refine ⟨_, _, rfl, d_pp, (gp _).s, (gp _).n, (gp _).p, (gp _).l, ?_⟩
    refine ⟨_, rfl, _, _, _, _, rfl, rfl, s_du, rfl, _, rfl, iteB (fun c => absurd c (by rw [hasPartsD_no (isPosD_no hnum)]; simp)) (fun _ => ⟨_, rfl, ?_⟩)⟩
    refine ⟨sz5 (by simp), fun ol h_ol => ?_⟩
    have d_ol := Dp.lstN (K := K) h_ol ((.cons (.bl false) .nil) : DpAll K _ ([.bl false] : List V) ([.bool false] : List PyData))
    have d_x := Dp.new (HO.lst [.bl false]) h_ol d_x
    have d_du := Dp.new (HO.lst [.bl false]) h_ol d_du
    have d_pp := Dp.new (HO.lst [.bl false]) h_ol d_pp
    have s_du := (Car.ex (Evl.Ex.new (o := HO.lst [.bl false]) h_ol)).l s_du
    have e := e.trans (Evl.Ex.new (o := HO.lst [.bl false]) h_ol)
    refine ⟨ol, 2, [.bl false], rfl, rfl, upd_same, by decide, by decide, by rw [sizeLine_eq]; show 1 * 2 ≤ 16777216; decide, fun r2 h_r2 => ?_⟩
    have d_r2 : Dp K _ (.ref r2) (.list [.bool false, .bool false]) := Dp.lstN (K := K) h_r2 (.cons (.bl false) (.cons (.bl false) .nil))
    have d_x := Dp.new (HO.lst (List.replicate (2 : Int).toNat [V.bl false]).flatten) h_r2 d_x
    have d_du := Dp.new (HO.lst (List.replicate (2 : Int).toNat [V.bl false]).flatten) h_r2 d_du
    have d_pp := Dp.new (HO.lst (List.replicate (2 : Int).toNat [V.bl false]).flatten) h_r2 d_pp
    have d_ol := Dp.new (HO.lst (List.replicate (2 : Int).toNat [V.bl false]).flatten) h_r2 d_ol
    have s_du := (Car.ex (Evl.Ex.new (o := HO.lst (List.replicate (2 : Int).toNat [V.bl false]).flatten) h_r2)).l s_du
    have e := e.trans (Evl.Ex.new (o := HO.lst (List.replicate (2 : Int).toNat [V.bl false]).flatten) h_r2)
    have hv : isPaceD d = false := isPaceD_no hnum
    refine ⟨_, _, rfl, d_r2, (gp _).s, (gp _).n, (gp _).p, (gp _).l, rfl, _, rfl, iteB (fun c => absurd c (by rw [hv]; simp)) (fun _ => ?_)⟩
    clear d_pp d_ol d_r2
    refine ⟨_, rfl, _, _, _, _, rfl, rfl, s_du, rfl, _, rfl, iteB (fun _ => ?_) (fun c => absurd c (by rw [hnum]; simp))⟩
    have gn : Gd 100 16000000 (.list [.str "number", d]) := (Gd.number (by decide) hgd).mono (by decide) (by decide)
    refine ⟨_, rfl, _, rfl, d, d_x, hgd, (fun a b e' i => absurd hnum (by rw [e', isNumD_is i]; simp)), fun _ p H' e' dp => ?_⟩
    have d_x := (Car.ex e').d d_x
    have d_du := (Car.ex e').d d_du
    have s_du := (Car.ex e').l s_du
    have e := e.trans e'
    refine ⟨_, _, rfl, dp, gn.s, gn.n, gn.p, gn.l, _, rfl, sz5 (by simp), fun nl h_nl => ?_⟩
    refine ⟨_, _, rfl, Dp.lstN (K := K) h_nl (.cons (.str "number") (.cons d_x .nil)), gn.s, gn.n, gn.p, gn.l, rfl, ?_⟩
    show Q (.bl (decide (V.str _ = V.str _))) _
    rw [decide_eq_true rfl]
    exact hq _ (e.trans (Evl.Ex.new h_nl))
  | true =>
    obtain ⟨a, b, rfl, i⟩ := isNumD_inv hnum
    obtain ⟨l1, l2⟩ := hgd.num_log
    obtain ⟨ax, rfl, s_x0⟩ := NumAt.of d_x
    have SX : ∀ {G : Hp}, Dp K G (.ref ax) (.tuple [.int a, .int b]) → SqT K G ax [.int a, .int b] := fun h => by obtain ⟨_, e', k⟩ := NumAt.of h; cases e'; exact k
    refine ⟨_, rfl, _, _, _, _, rfl, rfl, s_du, rfl, _, rfl, iteB (fun _ => ?_) (fun c => absurd c (by rw [hnum]; simp))⟩
    refine ⟨_, rfl, _, _, _, _, rfl, rfl, (SX d_x), rfl, rfl, ?_⟩
    cases hpp : hasPartsD (.tuple [.int a, .int b]) 60 60 with
    | false =>
      refine ⟨_, rfl, _, rfl, _, d_x, fun H' e' => ?_⟩
      have d_x := (Car.ex e').d d_x
      have d_du := (Car.ex e').d d_du
      have s_du := (Car.ex e').l s_du
      have e := e.trans e'
      refine ⟨_, rfl, rfl, rfl, _, rfl, _, d_x, fun H' e' => ?_⟩
      have d_x := (Car.ex e').d d_x
      have d_du := (Car.ex e').d d_du
      have s_du := (Car.ex e').l s_du
      have e := e.trans e'
      refine ⟨sz5 (by simp), fun pp h_pp => ?_⟩
      have d_pp := Dp.lstN (K := K) h_pp ((.cons (.bl (isPaceD (.tuple [.int a, .int b]))) (.cons (.bl (isPaceD (.tuple [.int a, .int b]))) .nil)) : DpAll K _ ([.bl (isPaceD (.tuple [.int a, .int b])), .bl (isPaceD (.tuple [.int a, .int b]))] : List V) ([.bool (isPaceD (.tuple [.int a, .int b])), .bool (isPaceD (.tuple [.int a, .int b]))] : List PyData))
      have d_x := Dp.new (HO.lst [.bl (isPaceD (.tuple [.int a, .int b])), .bl (isPaceD (.tuple [.int a, .int b]))]) h_pp d_x
      have d_du := Dp.new (HO.lst [.bl (isPaceD (.tuple [.int a, .int b])), .bl (isPaceD (.tuple [.int a, .int b]))]) h_pp d_du
      have s_du := (Car.ex (Evl.Ex.new (o := HO.lst [.bl (isPaceD (.tuple [.int a, .int b])), .bl (isPaceD (.tuple [.int a, .int b]))]) h_pp)).l s_du
      have e := e.trans (Evl.Ex.new (o := HO.lst [.bl (isPaceD (.tuple [.int a, .int b])), .bl (isPaceD (.tuple [.int a, .int b]))]) h_pp)
      have gp : ∀ b : Bool, Gd 100 16000000 (.list [.bool b, .bool b]) := fun b => (Gd.two Gd.bool Gd.bool).mono (by decide) (by decide)
      refine ⟨_, _, rfl, d_pp, (gp _).s, (gp _).n, (gp _).p, (gp _).l, ?_⟩
      refine ⟨_, rfl, _, _, _, _, rfl, rfl, s_du, rfl, _, rfl, iteB (fun c => absurd c (by rw [hpp]; simp)) (fun _ => ⟨_, rfl, ?_⟩)⟩
      refine ⟨sz5 (by simp), fun ol h_ol => ?_⟩
      have d_ol := Dp.lstN (K := K) h_ol ((.cons (.bl (decide (V.int a = V.int 0))) .nil) : DpAll K _ ([.bl (decide (V.int a = V.int 0))] : List V) ([.bool (decide (V.int a = V.int 0))] : List PyData))
      have d_x := Dp.new (HO.lst [.bl (decide (V.int a = V.int 0))]) h_ol d_x
      have d_du := Dp.new (HO.lst [.bl (decide (V.int a = V.int 0))]) h_ol d_du
      have d_pp := Dp.new (HO.lst [.bl (decide (V.int a = V.int 0))]) h_ol d_pp
      have s_du := (Car.ex (Evl.Ex.new (o := HO.lst [.bl (decide (V.int a = V.int 0))]) h_ol)).l s_du
      have e := e.trans (Evl.Ex.new (o := HO.lst [.bl (decide (V.int a = V.int 0))]) h_ol)
      refine ⟨ol, 2, [.bl (decide (V.int a = V.int 0))], rfl, rfl, upd_same, by decide, by decide, by rw [sizeLine_eq]; show 1 * 2 ≤ 16777216; decide, fun r2 h_r2 => ?_⟩
      have d_r2 : Dp K _ (.ref r2) (.list [.bool (decide (V.int a = V.int 0)), .bool (decide (V.int a = V.int 0))]) := Dp.lstN (K := K) h_r2 (.cons (.bl (decide (V.int a = V.int 0))) (.cons (.bl (decide (V.int a = V.int 0))) .nil))
      have d_x := Dp.new (HO.lst (List.replicate (2 : Int).toNat [V.bl (decide (V.int a = V.int 0))]).flatten) h_r2 d_x
      have d_du := Dp.new (HO.lst (List.replicate (2 : Int).toNat [V.bl (decide (V.int a = V.int 0))]).flatten) h_r2 d_du
      have d_pp := Dp.new (HO.lst (List.replicate (2 : Int).toNat [V.bl (decide (V.int a = V.int 0))]).flatten) h_r2 d_pp
      have d_ol := Dp.new (HO.lst (List.replicate (2 : Int).toNat [V.bl (decide (V.int a = V.int 0))]).flatten) h_r2 d_ol
      have s_du := (Car.ex (Evl.Ex.new (o := HO.lst (List.replicate (2 : Int).toNat [V.bl (decide (V.int a = V.int 0))]).flatten) h_r2)).l s_du
      have e := e.trans (Evl.Ex.new (o := HO.lst (List.replicate (2 : Int).toNat [V.bl (decide (V.int a = V.int 0))]).flatten) h_r2)
      have hv : isPaceD (.tuple [.int a, .int b]) = (decide (V.int a = V.int 0)) := by rw [isPaceD_is i, hpp, Bool.false_or]; by_cases h : a = 0 <;> simp [h]
      refine ⟨_, _, rfl, d_r2, (gp _).s, (gp _).n, (gp _).p, (gp _).l, rfl, _, rfl, iteB (fun c => absurd c (by rw [hv]; simp)) (fun _ => ?_)⟩
      clear d_pp d_ol d_r2
      refine ⟨_, rfl, _, _, _, _, rfl, rfl, s_du, rfl, _, rfl, iteB (fun c => absurd c (by rw [hnum]; simp)) (fun _ => ?_)⟩
      refine text_in rfl (SX d_x) l1 l2 ?_
      refine ⟨_, rfl, _, rfl, _, d_x, hgd, (fun a' b' eq' i' p H' e' dp => ?_), fun hno => absurd hno (by rw [hnum]; simp)⟩
      cases eq'
      have d_x := (Car.ex e').d d_x
      have d_du := (Car.ex e').d d_du
      have s_du := (Car.ex e').l s_du
      have e := e.trans e'
      refine ⟨_, rfl, sz5 (by simp), fun tl h_tl => ?_⟩
      have dp := Dp.new (.lst [.str "text", .str (ntext a b)]) h_tl dp
      have d_tl := Dp.lstN (K := K) h_tl (.cons (.str "text") (.cons (.str (ntext a b)) .nil))
      have d_x := Dp.new (HO.lst [.str "text", .str (ntext a b)]) h_tl d_x
      have d_du := Dp.new (HO.lst [.str "text", .str (ntext a b)]) h_tl d_du
      have s_du := (Car.ex (Evl.Ex.new (o := HO.lst [.str "text", .str (ntext a b)]) h_tl)).l s_du
      have e := e.trans (Evl.Ex.new (o := HO.lst [.str "text", .str (ntext a b)]) h_tl)
      have sh : SeqAt.shaped (.list [.str "text", .str (ntext a b)]) = true := shaped_ss (strOk_of _) (strOk_num a b)
      have hE : PyData.eqv (.list [.str "text", .str (ntext a b)]) (.list [.str "text", .str (ntext a b)]) = true := by simp [PyData.eqv, PyData.eqvAll]
      refine ⟨_, _, dp, d_tl, sh, sh, _, rfl, iteB (fun _ => ?_) (fun c => absurd hE (by rw [c]; simp))⟩
      have hb0 : b ≠ 0 := by have := i.1; omega
      refine ⟨_, rfl, _, _, _, _, rfl, rfl, (SX d_x), rfl, _, rfl, _, _, _, _, rfl, rfl, (SX d_x), rfl, _, _, rfl, .int a, .int b, .int _, .int _, fun a' b' ea eb _ => ?_, fun hc => absurd (hc _ _ rfl rfl) hb0⟩
      cases ea
      cases eb
      refine ⟨(bd_of_log l2).mono (by decide), fun np H' hp e' hd' => ?_⟩
      rw [red_same i] at hd'
      have d_x := (Car.ex e').d d_x
      have d_du := (Car.ex e').d d_du
      have s_du := (Car.ex e').l s_du
      have e := e.trans e'
      have hg2 := hgd.mono (k' := 100) (m' := 16000000) (by decide) (by decide)
      refine ⟨_, _, rfl, (NumAt.new (K := K) hd').d, hg2.s, hg2.n, hg2.p, hg2.l, _, rfl, _, _, rfl, d_x, hg2.s, hg2.n, hg2.p, hg2.l, rfl, ?_⟩
      show Q (.bl (decide (V.str _ = V.str _))) _
      rw [decide_eq_true rfl]
      exact hq _ e
    | true =>
      refine ⟨_, rfl, _, rfl, _, d_x, fun H' e' => ?_⟩
      have d_x := (Car.ex e').d d_x
      have d_du := (Car.ex e').d d_du
      have s_du := (Car.ex e').l s_du
      have e := e.trans e'
      refine ⟨_, rfl, rfl, rfl, _, rfl, _, d_x, fun H' e' => ?_⟩
      have d_x := (Car.ex e').d d_x
      have d_du := (Car.ex e').d d_du
      have s_du := (Car.ex e').l s_du
      have e := e.trans e'
      refine ⟨sz5 (by simp), fun pp h_pp => ?_⟩
      have d_pp := Dp.lstN (K := K) h_pp ((.cons (.bl (isPaceD (.tuple [.int a, .int b]))) (.cons (.bl (isPaceD (.tuple [.int a, .int b]))) .nil)) : DpAll K _ ([.bl (isPaceD (.tuple [.int a, .int b])), .bl (isPaceD (.tuple [.int a, .int b]))] : List V) ([.bool (isPaceD (.tuple [.int a, .int b])), .bool (isPaceD (.tuple [.int a, .int b]))] : List PyData))
      have d_x := Dp.new (HO.lst [.bl (isPaceD (.tuple [.int a, .int b])), .bl (isPaceD (.tuple [.int a, .int b]))]) h_pp d_x
      have d_du := Dp.new (HO.lst [.bl (isPaceD (.tuple [.int a, .int b])), .bl (isPaceD (.tuple [.int a, .int b]))]) h_pp d_du
      have s_du := (Car.ex (Evl.Ex.new (o := HO.lst [.bl (isPaceD (.tuple [.int a, .int b])), .bl (isPaceD (.tuple [.int a, .int b]))]) h_pp)).l s_du
      have e := e.trans (Evl.Ex.new (o := HO.lst [.bl (isPaceD (.tuple [.int a, .int b])), .bl (isPaceD (.tuple [.int a, .int b]))]) h_pp)
      have gp : ∀ b : Bool, Gd 100 16000000 (.list [.bool b, .bool b]) := fun b => (Gd.two Gd.bool Gd.bool).mono (by decide) (by decide)
      refine ⟨_, _, rfl, d_pp, (gp _).s, (gp _).n, (gp _).p, (gp _).l, ?_⟩
      refine ⟨_, rfl, _, _, _, _, rfl, rfl, s_du, rfl, _, rfl, iteB (fun _ => ?_) (fun c => absurd c (by rw [hpp]; simp))⟩
      refine ⟨sz5 (by simp), fun ol h_ol => ?_⟩
      have d_ol := Dp.lstN (K := K) h_ol ((.cons (.bl true) .nil) : DpAll K _ ([.bl true] : List V) ([.bool true] : List PyData))
      have d_x := Dp.new (HO.lst [.bl true]) h_ol d_x
      have d_du := Dp.new (HO.lst [.bl true]) h_ol d_du
      have d_pp := Dp.new (HO.lst [.bl true]) h_ol d_pp
      have s_du := (Car.ex (Evl.Ex.new (o := HO.lst [.bl true]) h_ol)).l s_du
      have e := e.trans (Evl.Ex.new (o := HO.lst [.bl true]) h_ol)
      refine ⟨ol, 2, [.bl true], rfl, rfl, upd_same, by decide, by decide, by rw [sizeLine_eq]; show 1 * 2 ≤ 16777216; decide, fun r2 h_r2 => ?_⟩
      have d_r2 : Dp K _ (.ref r2) (.list [.bool true, .bool true]) := Dp.lstN (K := K) h_r2 (.cons (.bl true) (.cons (.bl true) .nil))
      have d_x := Dp.new (HO.lst (List.replicate (2 : Int).toNat [V.bl true]).flatten) h_r2 d_x
      have d_du := Dp.new (HO.lst (List.replicate (2 : Int).toNat [V.bl true]).flatten) h_r2 d_du
      have d_pp := Dp.new (HO.lst (List.replicate (2 : Int).toNat [V.bl true]).flatten) h_r2 d_pp
      have d_ol := Dp.new (HO.lst (List.replicate (2 : Int).toNat [V.bl true]).flatten) h_r2 d_ol
      have s_du := (Car.ex (Evl.Ex.new (o := HO.lst (List.replicate (2 : Int).toNat [V.bl true]).flatten) h_r2)).l s_du
      have e := e.trans (Evl.Ex.new (o := HO.lst (List.replicate (2 : Int).toNat [V.bl true]).flatten) h_r2)
      have hv : isPaceD (.tuple [.int a, .int b]) = true := by rw [isPaceD_is i, hpp, Bool.true_or]
      refine ⟨_, _, rfl, d_r2, (gp _).s, (gp _).n, (gp _).p, (gp _).l, rfl, _, rfl, iteB (fun c => absurd c (by rw [hv]; simp)) (fun _ => ?_)⟩
      clear d_pp d_ol d_r2
      refine ⟨_, rfl, _, _, _, _, rfl, rfl, s_du, rfl, _, rfl, iteB (fun c => absurd c (by rw [hnum]; simp)) (fun _ => ?_)⟩
      refine text_in rfl (SX d_x) l1 l2 ?_
      refine ⟨_, rfl, _, rfl, _, d_x, hgd, (fun a' b' eq' i' p H' e' dp => ?_), fun hno => absurd hno (by rw [hnum]; simp)⟩
      cases eq'
      have d_x := (Car.ex e').d d_x
      have d_du := (Car.ex e').d d_du
      have s_du := (Car.ex e').l s_du
      have e := e.trans e'
      refine ⟨_, rfl, sz5 (by simp), fun tl h_tl => ?_⟩
      have dp := Dp.new (.lst [.str "text", .str (ntext a b)]) h_tl dp
      have d_tl := Dp.lstN (K := K) h_tl (.cons (.str "text") (.cons (.str (ntext a b)) .nil))
      have d_x := Dp.new (HO.lst [.str "text", .str (ntext a b)]) h_tl d_x
      have d_du := Dp.new (HO.lst [.str "text", .str (ntext a b)]) h_tl d_du
      have s_du := (Car.ex (Evl.Ex.new (o := HO.lst [.str "text", .str (ntext a b)]) h_tl)).l s_du
      have e := e.trans (Evl.Ex.new (o := HO.lst [.str "text", .str (ntext a b)]) h_tl)
      have sh : SeqAt.shaped (.list [.str "text", .str (ntext a b)]) = true := shaped_ss (strOk_of _) (strOk_num a b)
      have hE : PyData.eqv (.list [.str "text", .str (ntext a b)]) (.list [.str "text", .str (ntext a b)]) = true := by simp [PyData.eqv, PyData.eqvAll]
      refine ⟨_, _, dp, d_tl, sh, sh, _, rfl, iteB (fun _ => ?_) (fun c => absurd hE (by rw [c]; simp))⟩
      have hb0 : b ≠ 0 := by have := i.1; omega
      refine ⟨_, rfl, _, _, _, _, rfl, rfl, (SX d_x), rfl, _, rfl, _, _, _, _, rfl, rfl, (SX d_x), rfl, _, _, rfl, .int a, .int b, .int _, .int _, fun a' b' ea eb _ => ?_, fun hc => absurd (hc _ _ rfl rfl) hb0⟩
      cases ea
      cases eb
      refine ⟨(bd_of_log l2).mono (by decide), fun np H' hp e' hd' => ?_⟩
      rw [red_same i] at hd'
      have d_x := (Car.ex e').d d_x
      have d_du := (Car.ex e').d d_du
      have s_du := (Car.ex e').l s_du
      have e := e.trans e'
      have hg2 := hgd.mono (k' := 100) (m' := 16000000) (by decide) (by decide)
      refine ⟨_, _, rfl, (NumAt.new (K := K) hd').d, hg2.s, hg2.n, hg2.p, hg2.l, _, rfl, _, _, rfl, d_x, hg2.s, hg2.n, hg2.p, hg2.l, rfl, ?_⟩
      show Q (.bl (decide (V.str _ = V.str _))) _
      rw [decide_eq_true rfl]
      exact hq _ e
theorem ok__law_right (T : Txt P K mg D) : CallG P w K mg base 7 D._law_right [] (spRight K) := by
  obtain ⟨fd, F, B⟩ := fb__law_right (w := w) (base := base) T
  exact B.pos sp1_len (F.binds (ps := ["what"]) fun _ _ _ _ _ _ us hl => match us, hl with | [_], _ => rfl)
abbrev N_law : List Str := ["script", "draw", "turn", "what", "one", "other", "shown", "odd", "pair"]
theorem sc_law : FnScope N_law ["script"] (defScope s_law) := ⟨rfl, rfl, rfl, by decide +kernel, rfl, by decide +kernel, by decide +kernel⟩
theorem quot_gd' : True := trivial
def spLaw (K : Frag) : Sp := sp1 fun x H Q _ => ∃ (a : Addr) (ns : List Int), x = .ref a ∧ SqL K H a (ns.map V.int) ∧ ns.length ≤ 63 ∧ ∀ H', Q (.bl true) H'
theorem fb_law (T : Txt P K mg D) : ∃ fd, Fun K "law" "law" s_law D.law fd ∧ FnB P w K mg base 8 D.law fd ["script"] (spLaw K) := by
  obtain ⟨fd, F⟩ := T.f_law
  refine ⟨fd, F, Fun_okB (k := 7) F sc_law fun cdv A outer s H vs Q E hr hg h => ?_⟩
  have nd := sc_law.nd
  obtain ⟨x, rfl, a, ns, rfl, hs, hl, hq⟩ := h
  refine ⟨_, (pss_cons (ps_set (i := 1) nd rfl (.inl rfl) (pe_callG (ok__law_begin T) (hr.mono (by decide)) hg (takes_of rfl rfl rfl rfl) rfl T.g__law_begin T.k__law_begin (pa_cons (pv 0) pa_nil)))
        (pss_cons (ps_for (passes_of rfl) rfl (pi_range1 rfl T.n_range (pa_cons (pe_callB (call_min2 rfl) rfl T.n_min (by decide +kernel) (pa_cons pe_int (pa_cons (pe_op op_add pe_int (pe_callB call_len rfl T.n_len (by decide +kernel) (pa_cons (pv 0) pa_nil))) pa_nil))) pa_nil)) (pg_name (i := 2) nd rfl (.inl rfl)) (pss_cons (ps_par3 (i := 3) (j := 4) (l := 5) rfl nd rfl rfl rfl (by decide) (by decide) (by decide) rfl rfl rfl (pa_cons (pe_callG (ok__law_thing T) (hr.mono (by decide)) hg (takes_of rfl rfl rfl rfl) rfl T.g__law_thing T.k__law_thing (pa_cons (pv 1) pa_nil)) (pa_cons (pe_callG (ok__law_integer T) (hr.mono (by decide)) hg (takes_of rfl rfl rfl rfl) rfl T.g__law_integer T.k__law_integer (pa_cons (pv 1) pa_nil)) (pa_cons (pe_callG (ok__law_integer T) (hr.mono (by decide)) hg (takes_of rfl rfl rfl rfl) rfl T.g__law_integer T.k__law_integer (pa_cons (pv 1) pa_nil)) pa_nil))) (by rfl))
        (pss_cons (ps_set (i := 6) nd rfl (.inl rfl) (pe_callB (call_reprD hr hg) rfl T.n_repr (by decide +kernel) (pa_cons (pv 3) pa_nil)))
        (pss_cons (ps_if (PW.pt (pw_or (pt_not (pt_val (pe_callG (ok__law_right T) (hr.mono (by decide)) hg (takes_of rfl rfl rfl rfl) rfl T.g__law_right T.k__law_right (pa_cons (pv 3) pa_nil)))) (pw_or (pt_not (pt_val (pe_callG (ok__law_right T) (hr.mono (by decide)) hg (takes_of rfl rfl rfl rfl) rfl T.g__law_right T.k__law_right (pa_cons (pv 3) pa_nil)))) (pw_or1 (pt_cmpR op_ne (pe_callB (call_reprD hr hg) rfl T.n_repr (by decide +kernel) (pa_cons (pv 3) pa_nil)) (pv 6) (nomark _)))))) (pss_one (ps_ret pe_bl)) pss_nil)
        (pss_cons (ps_set (i := 7) nd rfl (.inl rfl) (pe_ix ix_list (pe_lst (pa_cons pe_non (pa_cons pe_bl (pa_cons pe_str (pa_cons (pe_tup (pa_cons pe_int (pa_cons pe_int pa_nil))) (pa_cons (pe_lst (pa_cons pe_int pa_nil)) (pa_cons (pv 5) pa_nil))))))) (pe_callG (ok__law_next T) (hr.mono (by decide)) hg (takes_of rfl rfl rfl rfl) rfl T.g__law_next T.k__law_next (pa_cons (pv 1) (pa_cons pe_int pa_nil))) (fun _ _ => rfl)))
        (pss_cons (ps_for (passes_of rfl) rfl (pi_list (pe_lst (pa_cons (pe_tup (pa_cons (pv 4) (pa_cons (pv 5) pa_nil))) (pa_cons (pe_tup (pa_cons (pv 4) (pa_cons (pv 7) pa_nil))) (pa_cons (pe_tup (pa_cons (pv 7) (pa_cons (pv 5) pa_nil))) (pa_cons (pe_tup (pa_cons (pv 4) (pa_cons pe_int pa_nil))) pa_nil)))))) (pg_name (i := 8) nd rfl (.inl rfl)) (pss_one (ps_if (pt_cmpR op_ne (pe_callB (call_reprD hr hg) rfl T.n_repr (by decide +kernel) (pa_cons (pe_callG (ok__law_quotient T) (hr.mono (by decide)) hg (takes_of rfl rfl rfl rfl) rfl T.g__law_quotient T.k__law_quotient (pa_cons (pe_ix ix_tup (pv 8) pe_int (fun _ _ => rfl)) (pa_cons (pe_ix ix_tup (pv 8) pe_int (fun _ _ => rfl)) pa_nil))) pa_nil)) (pe_callB (call_reprD hr hg) rfl T.n_repr (by decide +kernel) (pa_cons (pe_callG (ok__law_due T) (hr.mono (by decide)) hg (takes_of rfl rfl rfl rfl) rfl T.g__law_due T.k__law_due (pa_cons (pe_ix ix_tup (pv 8) pe_int (fun _ _ => rfl)) (pa_cons (pe_ix ix_tup (pv 8) pe_int (fun _ _ => rfl)) pa_nil))) pa_nil)) (nomark _)) (pss_one (ps_ret pe_bl)) pss_nil)))
        (pss_one (ps_if (pt_cmpR op_ne (pe_callB (call_reprD hr hg) rfl T.n_repr (by decide +kernel) (pa_cons (pe_callG (ok_number_1 T) (hr.mono (by decide)) hg (takes_of rfl rfl rfl rfl) rfl T.g_number T.k_number (pa_cons (pv 4) pa_nil)) pa_nil)) (pe_callB (call_reprD hr hg) rfl T.n_repr (by decide +kernel) (pa_cons (pe_tup (pa_cons (pv 4) (pa_cons pe_int pa_nil))) pa_nil)) (nomark _)) (pss_one (ps_ret pe_bl)) pss_nil))))))))
        (pss_one (ps_ret pe_bl)))), ?_⟩
  refine ⟨_, rfl, _, rfl, a, ns, rfl, hs, hl, fun d H1 hd e1 D1 => ?_⟩
  have hsl : SqL K H1 a (ns.map V.int) := (Car.ex e1).l hs
  have hml : (ns.map V.int).length = ns.length := List.length_map ..
  refine ⟨_, rfl, _, _, rfl, .inl ⟨_, hsl, rfl⟩, _, _, rfl, rfl, _, _, rfl, _, rfl, ?_⟩
  rw [hml]
  have hb : 0 ≤ (if 12 + (ns.length : Int) < 40 then 12 + (ns.length : Int) else 40) ∧ (if 12 + (ns.length : Int) < 40 then 12 + (ns.length : Int) else 40) ≤ 40 := by split <;> omega
  refine ⟨by omega, by omega, for_range (lo := 0) (fun i σ H' => ∃ t w o1 o2 sh od pr, σ = [some (.ref a), some (.ref d), t, w, o1, o2, sh, od, pr] ∧ DrawAt K H' d (200 * i)) ⟨_, _, _, _, _, _, _, rfl, D1⟩ ?_ ?_⟩
  · rintro i σ H0 hi ⟨t, w, o1, o2, sh, od, pr, rfl, D0⟩
    have hi' : i < 41 := by omega
    have W := D0
    have e : Exb d H0 H0 := Exb.refl
    refine ⟨_, rfl, _, rfl, d, _, rfl, W, by omega, fun v dv H' d_v hp_v D' e' => ?_⟩
    have c := W.car e'
    have e := e.trans e'
    have W := D'
    refine ⟨_, rfl, _, rfl, d, _, rfl, W, by omega, fun a1 H' ba D' e' => ?_⟩
    have c := W.car e'
    have d_v := c.d d_v
    have e := e.trans e'
    have W := D'
    refine ⟨_, rfl, _, rfl, d, _, rfl, W, by omega, fun b1 H' bb D' e' => ?_⟩
    have c := W.car e'
    have d_v := c.d d_v
    have e := e.trans e'
    have W := D'
    have gv : Gd 100 16000000 dv := hp_v.mono (by decide) (by decide)
    refine ⟨_, _, _, rfl, _, rfl, _, _, rfl, d_v, gv.s, gv.n, gv.p, gv.l, ?_⟩
    refine ⟨_, rfl, _, rfl, dv, d_v, hp_v, fun H' e' => ⟨_, rfl, iteF ?_⟩⟩
    have d_v := (Car.ex e').d d_v
    have W := W.ex e'
    have e := Exb.ex e e'
    refine ⟨_, rfl, _, rfl, dv, d_v, hp_v, fun H' e' => ⟨_, rfl, iteF ?_⟩⟩
    have d_v := (Car.ex e').d d_v
    have W := W.ex e'
    have e := Exb.ex e e'
    refine ⟨_, rfl, _, _, rfl, d_v, gv.s, gv.n, gv.p, gv.l, _, rfl, rfl, _, rfl, iteB (fun c => absurd c (by simp)) (fun _ => ?_)⟩
    clear d_v
    refine ⟨sz5 (by simp), fun p1 h_p1 => ?_⟩
    have d_p1 := Dp.tupN (K := K) h_p1 ((.cons (.int (1)) (.cons (.int (1)) .nil)) : DpAll K _ ([.int (1), .int (1)] : List V) ([.int (1), .int (1)] : List PyData))
    have W := W.ex (Evl.Ex.new (o := HO.tup [.int (1), .int (1)]) h_p1)
    have e := Exb.ex e (Evl.Ex.new (o := HO.tup [.int (1), .int (1)]) h_p1)
    refine ⟨sz5 (by simp), fun p2 h_p2 => ?_⟩
    have d_p2 := Dp.lstN (K := K) h_p2 ((.cons (.int (2)) .nil) : DpAll K _ ([.int (2)] : List V) ([.int (2)] : List PyData))
    have d_p1 := Dp.new (HO.lst [.int (2)]) h_p2 d_p1
    have W := W.ex (Evl.Ex.new (o := HO.lst [.int (2)]) h_p2)
    have e := Exb.ex e (Evl.Ex.new (o := HO.lst [.int (2)]) h_p2)
    refine ⟨_, rfl, sz5 (by simp), fun ol h_ol => ?_⟩
    have d_ol := Dp.lstN (K := K) h_ol ((.cons .non (.cons (.bl true) (.cons (.str "1") (.cons d_p1 (.cons d_p2 (.cons (.int (b1)) .nil)))))) : DpAll K _ ([.non, .bl true, .str "1", .ref p1, .ref p2, .int (b1)] : List V) ([.none, .bool true, .str "1", .tuple [.int (1), .int (1)], .list [.int (2)], .int (b1)] : List PyData))
    have d_p1 := Dp.new (HO.lst [.non, .bl true, .str "1", .ref p1, .ref p2, .int (b1)]) h_ol d_p1
    have d_p2 := Dp.new (HO.lst [.non, .bl true, .str "1", .ref p1, .ref p2, .int (b1)]) h_ol d_p2
    have W := W.ex (Evl.Ex.new (o := HO.lst [.non, .bl true, .str "1", .ref p1, .ref p2, .int (b1)]) h_ol)
    have e := Exb.ex e (Evl.Ex.new (o := HO.lst [.non, .bl true, .str "1", .ref p1, .ref p2, .int (b1)]) h_ol)
    refine ⟨_, rfl, _, _, rfl, d, _, 6, rfl, rfl, W, by omega, by decide, by decide, fun r r0 r1 H' D' e' => ?_⟩
    have c := W.car e'
    have d_p1 := c.d d_p1
    have d_p2 := c.d d_p2
    have d_ol := c.d d_ol
    have e := e.trans e'
    have W := D'
    have gi : ∀ {i : Int}, Bd 1402 i → Gd 1 2000 (.int i) := fun h => (Gd.int (h.mono (by decide))).mono (by decide) (by decide)
    have ga : Gd 1 2000 (.int a1) := gi (ba.mono (by decide))
    have gb : Gd 1 2000 (.int b1) := gi (bb.mono (by decide))
    obtain ⟨_, hl_od, dl_od⟩ := lst_inv d_ol
    obtain ⟨od, odd, hx_od, d_od, hp_od⟩ := pick dl_od r0 (by rw [Rm.DpAll.len dl_od]; exact r1) (by
      have g1 : Gd 0 1921 (.int 1) := Gd.int (Bd.mono (m := 1) (by unfold Bd; decide) (by decide))
      have g2 : Gd 0 1921 (.int 2) := Gd.int (Bd.mono (m := 2) (by unfold Bd; decide) (by decide))
      intro x hx
      simp only [List.mem_cons, List.not_mem_nil, or_false] at hx
      rcases hx with rfl | rfl | rfl | rfl | rfl | rfl
      · exact ⟨Gd.non.mono (by decide) (by decide), fun b e => by cases e⟩
      · exact ⟨Gd.bool.mono (by decide) (by decide), fun b e => by cases e⟩
      · exact ⟨(Gd.str (m := 2000) (by decide +kernel)).mono (by decide) (by decide), fun b e => by cases e⟩
      · exact ⟨(Gd.mono (k' := 1) (m' := 4000) (Gd.pair g1 g1) (by decide) (by decide)), fun b e => by cases e⟩
      · exact ⟨(Gd.lst (k := 0) (m := 1921) (ds := [.int 2]) (fun x hx => by simp only [List.mem_cons, List.not_mem_nil, or_false] at hx; rw [hx]; exact g2)).mono (by decide) (by simp), fun b e => by cases e⟩
      · exact ⟨gb.mono (by decide) (by decide), fun b e => by cases e; exact bb.mono (by decide)⟩ : ∀ x ∈ _, Gd 1 4000 x ∧ ∀ b, x = .int b → Bd 9000 b)
    refine ⟨ol, _, r, od, rfl, rfl, hl_od, hx_od, ?_⟩
    refine ⟨_, rfl, _, rfl, sz5 (by simp), fun t1 h_t1 => ?_⟩
    have d_t1 := Dp.tupN (K := K) h_t1 ((.cons (.int (a1)) (.cons (.int (b1)) .nil)) : DpAll K _ ([.int (a1), .int (b1)] : List V) ([.int (a1), .int (b1)] : List PyData))
    have d_p1 := Dp.new (HO.tup [.int (a1), .int (b1)]) h_t1 d_p1
    have d_p2 := Dp.new (HO.tup [.int (a1), .int (b1)]) h_t1 d_p2
    have d_ol := Dp.new (HO.tup [.int (a1), .int (b1)]) h_t1 d_ol
    have d_od := Dp.new (HO.tup [.int (a1), .int (b1)]) h_t1 d_od
    have W := W.ex (Evl.Ex.new (o := HO.tup [.int (a1), .int (b1)]) h_t1)
    have e := Exb.ex e (Evl.Ex.new (o := HO.tup [.int (a1), .int (b1)]) h_t1)
    refine ⟨_, rfl, _, rfl, sz5 (by simp), fun t2 h_t2 => ?_⟩
    have d_t2 := Dp.tupN (K := K) h_t2 ((.cons (.int (a1)) (.cons d_od .nil)) : DpAll K _ ([.int (a1), od] : List V) ([.int (a1), odd] : List PyData))
    have d_p1 := Dp.new (HO.tup [.int (a1), od]) h_t2 d_p1
    have d_p2 := Dp.new (HO.tup [.int (a1), od]) h_t2 d_p2
    have d_ol := Dp.new (HO.tup [.int (a1), od]) h_t2 d_ol
    have d_od := Dp.new (HO.tup [.int (a1), od]) h_t2 d_od
    have d_t1 := Dp.new (HO.tup [.int (a1), od]) h_t2 d_t1
    have W := W.ex (Evl.Ex.new (o := HO.tup [.int (a1), od]) h_t2)
    have e := Exb.ex e (Evl.Ex.new (o := HO.tup [.int (a1), od]) h_t2)
    refine ⟨_, rfl, _, rfl, sz5 (by simp), fun t3 h_t3 => ?_⟩
    have d_t3 := Dp.tupN (K := K) h_t3 ((.cons d_od (.cons (.int (b1)) .nil)) : DpAll K _ ([od, .int (b1)] : List V) ([odd, .int (b1)] : List PyData))
    have d_p1 := Dp.new (HO.tup [od, .int (b1)]) h_t3 d_p1
    have d_p2 := Dp.new (HO.tup [od, .int (b1)]) h_t3 d_p2
    have d_ol := Dp.new (HO.tup [od, .int (b1)]) h_t3 d_ol
    have d_od := Dp.new (HO.tup [od, .int (b1)]) h_t3 d_od
    have d_t1 := Dp.new (HO.tup [od, .int (b1)]) h_t3 d_t1
    have d_t2 := Dp.new (HO.tup [od, .int (b1)]) h_t3 d_t2
    have W := W.ex (Evl.Ex.new (o := HO.tup [od, .int (b1)]) h_t3)
    have e := Exb.ex e (Evl.Ex.new (o := HO.tup [od, .int (b1)]) h_t3)
    refine ⟨_, rfl, sz5 (by simp), fun t4 h_t4 => ?_⟩
    have d_t4 := Dp.tupN (K := K) h_t4 ((.cons (.int (a1)) (.cons (.int (0)) .nil)) : DpAll K _ ([.int (a1), .int (0)] : List V) ([.int (a1), .int (0)] : List PyData))
    have d_p1 := Dp.new (HO.tup [.int (a1), .int (0)]) h_t4 d_p1
    have d_p2 := Dp.new (HO.tup [.int (a1), .int (0)]) h_t4 d_p2
    have d_ol := Dp.new (HO.tup [.int (a1), .int (0)]) h_t4 d_ol
    have d_od := Dp.new (HO.tup [.int (a1), .int (0)]) h_t4 d_od
    have d_t1 := Dp.new (HO.tup [.int (a1), .int (0)]) h_t4 d_t1
    have d_t2 := Dp.new (HO.tup [.int (a1), .int (0)]) h_t4 d_t2
    have d_t3 := Dp.new (HO.tup [.int (a1), .int (0)]) h_t4 d_t3
    have W := W.ex (Evl.Ex.new (o := HO.tup [.int (a1), .int (0)]) h_t4)
    have e := Exb.ex e (Evl.Ex.new (o := HO.tup [.int (a1), .int (0)]) h_t4)
    refine ⟨sz5 (by simp), fun l1 h_l1 => ?_⟩
    have d_l1 := Dp.lstN (K := K) h_l1 ((.cons d_t1 (.cons d_t2 (.cons d_t3 (.cons d_t4 .nil)))) : DpAll K _ ([.ref t1, .ref t2, .ref t3, .ref t4] : List V) ([.tuple [.int (a1), .int (b1)], .tuple [.int (a1), odd], .tuple [odd, .int (b1)], .tuple [.int (a1), .int (0)]] : List PyData))
    have d_p1 := Dp.new (HO.lst [.ref t1, .ref t2, .ref t3, .ref t4]) h_l1 d_p1
    have d_p2 := Dp.new (HO.lst [.ref t1, .ref t2, .ref t3, .ref t4]) h_l1 d_p2
    have d_ol := Dp.new (HO.lst [.ref t1, .ref t2, .ref t3, .ref t4]) h_l1 d_ol
    have d_od := Dp.new (HO.lst [.ref t1, .ref t2, .ref t3, .ref t4]) h_l1 d_od
    have d_t1 := Dp.new (HO.lst [.ref t1, .ref t2, .ref t3, .ref t4]) h_l1 d_t1
    have d_t2 := Dp.new (HO.lst [.ref t1, .ref t2, .ref t3, .ref t4]) h_l1 d_t2
    have d_t3 := Dp.new (HO.lst [.ref t1, .ref t2, .ref t3, .ref t4]) h_l1 d_t3
    have d_t4 := Dp.new (HO.lst [.ref t1, .ref t2, .ref t3, .ref t4]) h_l1 d_t4
    have W := W.ex (Evl.Ex.new (o := HO.lst [.ref t1, .ref t2, .ref t3, .ref t4]) h_l1)
    have e := Exb.ex e (Evl.Ex.new (o := HO.lst [.ref t1, .ref t2, .ref t3, .ref t4]) h_l1)
    have s_l1 := SqL_new (K := K) (vs := ([.ref t1, .ref t2, .ref t3, .ref t4] : List V)) h_l1

    have items : ∀ {G : Hp}, Dp K G (.ref t1) (.tuple [.int a1, .int b1]) → Dp K G (.ref t2) (.tuple [.int a1, odd]) → Dp K G (.ref t3) (.tuple [odd, .int b1]) → Dp K G (.ref t4) (.tuple [.int a1, .int 0]) → ∀ x ∈ ([.ref t1, .ref t2, .ref t3, .ref t4] : List V), ∃ t u v du dv, x = .ref t ∧ SqT K G t [u, v] ∧ Dp K G u du ∧ Dp K G v dv ∧ Gd 1 4000 du ∧ Gd 1 4000 dv ∧ ∀ b, dv = .int b → Bd 9000 b := by
      intro G d_t1 d_t2 d_t3 d_t4
      have G4 : ∀ {x : PyData}, Gd 1 2000 x → Gd 1 4000 x := fun g => g.mono (by decide) (by decide)
      have z0 : Gd 1 4000 (.int 0) := (Gd.int (Bd.mono (m := 1) (by unfold Bd; decide) (by decide))).mono (by decide) (by decide)
      intro x hx
      simp only [List.mem_cons, List.not_mem_nil, or_false] at hx
      rcases hx with rfl | rfl | rfl | rfl
      · obtain ⟨u, v, k1, k2, k3⟩ := tup2_inv d_t1
        exact ⟨_, _, _, _, _, rfl, k1, k2, k3, G4 ga, G4 gb, fun b e => by cases e; exact bb.mono (by decide)⟩
      · obtain ⟨u, v, k1, k2, k3⟩ := tup2_inv d_t2
        exact ⟨_, _, _, _, _, rfl, k1, k2, k3, G4 ga, hp_od.1, hp_od.2⟩
      · obtain ⟨u, v, k1, k2, k3⟩ := tup2_inv d_t3
        exact ⟨_, _, _, _, _, rfl, k1, k2, k3, hp_od.1, G4 gb, fun b e => by cases e; exact bb.mono (by decide)⟩
      · obtain ⟨u, v, k1, k2, k3⟩ := tup2_inv d_t4
        exact ⟨_, _, _, _, _, rfl, k1, k2, k3, G4 ga, z0, fun b e => by cases e; exact Bd.mono (m := 1) (by unfold Bd; decide) (by decide)⟩
    replace items := items d_t1 d_t2 d_t3 d_t4
    refine ⟨l1, rfl, ⟨_, s_l1⟩, for_list (K := K) (a := l1) (xs := [.ref t1, .ref t2, .ref t3, .ref t4]) (fun i σ H' => ∃ pr, σ = [some (.ref a), some (.ref d), _, some v, some (.int a1), some (.int b1), _, some od, pr] ∧ Ex _ H') ⟨_, rfl, Evl.Ex.refl _⟩ (fun i σ H' _ z => Evl.ex_l z.choose_spec.2 s_l1) ?_ ?_⟩
    · rintro i x σ H2 hx ⟨pr, rfl, e2⟩
      obtain ⟨t, u, v, du, dv', rfl, st, hu, hv, g1, g2, hb9⟩ := items x (List.mem_of_getElem? hx)
      have gq := quot_gd g1 g2
      have c2 := Car.ex e2
      refine ⟨_, rfl, _, _, _, _, rfl, rfl, c2.t st, rfl, _, rfl, _, _, _, _, rfl, rfl, c2.t st, rfl, _, _, rfl, du, dv', c2.d hu, c2.d hv, hb9, fun p3 H3 e3 dq3 => ?_⟩
      have c3 := c2.trans (Car.ex e3)
      refine ⟨_, _, rfl, dq3, gq.s, gq.n, gq.p, gq.l, _, rfl, _, _, _, _, rfl, rfl, c3.t st, rfl, _, rfl, _, _, _, _, rfl, rfl, c3.t st, rfl, _, _, rfl, du, dv', c3.d hu, c3.d hv, hb9, fun p4 H4 e4 dq4 => ?_⟩
      refine ⟨_, _, rfl, dq4, gq.s, gq.n, gq.p, gq.l, rfl, _, rfl, iteB (fun c => absurd c (by simp)) (fun _ => ⟨_, rfl, (e2.trans e3).trans e4⟩)⟩
    · rintro σ H2 ⟨pr, rfl, e2⟩
      refine ⟨_, rfl, _, _, rfl, .int a1, .int 1, .int _, .int _, fun a' b' ea eb _ => ?_, fun hc => absurd (hc _ _ rfl rfl) (by decide)⟩
      cases ea
      cases eb
      have i1 : IsNum a1 1 := ⟨by decide, by simp [Int.gcd]⟩
      have gn : Gd 100 16000000 (.tuple [.int a1, .int 1]) := (Gd.pair ga (gi (Bd.mono (m := 1) (by unfold Bd; decide) (by decide)))).mono (by decide) (by decide)
      refine ⟨Bd.mono (m := 1) (by unfold Bd; decide) (by decide), fun np H3 hp e3 hd3 => ?_⟩
      rw [red_same i1] at hd3
      refine ⟨_, _, rfl, (NumAt.new (K := K) hd3).d, gn.s, gn.n, gn.p, gn.l, _, rfl, sz5 (by simp), fun t9 ht9 => ?_⟩
      refine ⟨_, _, rfl, Dp.tupN (K := K) ht9 (.cons (.int a1) (.cons (.int 1) .nil)), gn.s, gn.n, gn.p, gn.l, rfl, _, rfl, iteB (fun c => absurd c (by simp)) (fun _ => ?_)⟩
      exact ⟨_, _, _, _, _, _, _, rfl, (((W.ex e2).ex e3).ex (Evl.Ex.new ht9)).mono (by omega)⟩
  · rintro σ H0 ⟨t, w, o1, o2, sh, od, pr, rfl, D0⟩
    exact hq _
theorem ok_law (T : Txt P K mg D) : CallG P w K mg base 8 D.law [] (spLaw K) := by
  obtain ⟨fd, F, B⟩ := fb_law (w := w) (base := base) T
  exact B.pos sp1_len (F.binds (ps := ["script"]) fun _ _ _ _ _ _ us hl => match us, hl with | [_], _ => rfl)
end
theorem cls_some {K : Frag} {C : Addr} (h : hasDictIn K C = true) : ∃ cd, clsIn K C = some cd := by
  unfold hasDictIn at h
  cases e : clsIn K C with
  | none => rw [e] at h; cases h
  | some cd => exact ⟨cd, rfl⟩
theorem cls_isSome {K : Frag} {C : Addr} (h : hasDictIn K C = true) : (clsIn K C).isSome = true := by
  obtain ⟨cd, e⟩ := cls_some h
  rw [e]
  rfl
theorem all_mk {P : Program} {K : Frag} {h : Heap} {mg : Str → Option Value} {fa : Addr} (X : K.In h) (G : h.Ns mainGlobals mg) (hfa : mg "law" = some (.ref fa))
    {A_is_integer : Addr} {od_is_integer an_is_integer : Option Addr} {sl_is_integer : Array (Option Value)} {oc_is_integer kV_is_integer dc_is_integer pm_is_integer cd_is_integer ct_is_integer : Value} {A_common_divisor : Addr} {od_common_divisor an_common_divisor : Option Addr} {sl_common_divisor : Array (Option Value)} {oc_common_divisor kV_common_divisor dc_common_divisor pm_common_divisor cd_common_divisor ct_common_divisor : Value} {A_reduced : Addr} {od_reduced an_reduced : Option Addr} {sl_reduced : Array (Option Value)} {oc_reduced kV_reduced dc_reduced pm_reduced cd_reduced ct_reduced : Value} {A_is_number : Addr} {od_is_number an_is_number : Option Addr} {sl_is_number : Array (Option Value)} {oc_is_number kV_is_number dc_is_number pm_is_number cd_is_number ct_is_number : Value} {A_is_positive : Addr} {od_is_positive an_is_positive : Option Addr} {sl_is_positive : Array (Option Value)} {oc_is_positive kV_is_positive dc_is_positive pm_is_positive cd_is_positive ct_is_positive : Value} {A_has_parts : Addr} {od_has_parts an_has_parts : Option Addr} {sl_has_parts : Array (Option Value)} {oc_has_parts kV_has_parts dc_has_parts pm_has_parts cd_has_parts ct_has_parts : Value} {A_is_factor : Addr} {od_is_factor an_is_factor : Option Addr} {sl_is_factor : Array (Option Value)} {oc_is_factor kV_is_factor dc_is_factor pm_is_factor cd_is_factor ct_is_factor : Value} {A_is_pace : Addr} {od_is_pace an_is_pace : Option Addr} {sl_is_pace : Array (Option Value)} {oc_is_pace kV_is_pace dc_is_pace pm_is_pace cd_is_pace ct_is_pace : Value} {A_is_length : Addr} {od_is_length an_is_length : Option Addr} {sl_is_length : Array (Option Value)} {oc_is_length kV_is_length dc_is_length pm_is_length cd_is_length ct_is_length : Value} {A_check_numbers : Addr} {od_check_numbers an_check_numbers : Option Addr} {sl_check_numbers : Array (Option Value)} {oc_check_numbers kV_check_numbers dc_check_numbers pm_check_numbers cd_check_numbers ct_check_numbers : Value} {A_number : Addr} {od_number an_number : Option Addr} {sl_number : Array (Option Value)} {oc_number kV_number dc_number pm_number cd_number ct_number : Value} {T_number : Addr} {to_number : Value} {td_number : Option Addr} {tn_number : Nat} {ts_number : Array (Option Value)} {tt_number_0 : Tok} {A_number_text : Addr} {od_number_text an_number_text : Option Addr} {sl_number_text : Array (Option Value)} {oc_number_text kV_number_text dc_number_text pm_number_text cd_number_text ct_number_text : Value} {A__law_begin : Addr} {od__law_begin an__law_begin : Option Addr} {sl__law_begin : Array (Option Value)} {oc__law_begin kV__law_begin dc__law_begin pm__law_begin cd__law_begin ct__law_begin : Value} {A__law_mixed : Addr} {od__law_mixed an__law_mixed : Option Addr} {sl__law_mixed : Array (Option Value)} {oc__law_mixed kV__law_mixed dc__law_mixed pm__law_mixed cd__law_mixed ct__law_mixed : Value} {A__law_next : Addr} {od__law_next an__law_next : Option Addr} {sl__law_next : Array (Option Value)} {oc__law_next kV__law_next dc__law_next pm__law_next cd__law_next ct__law_next : Value} {A__law_divisor : Addr} {od__law_divisor an__law_divisor : Option Addr} {sl__law_divisor : Array (Option Value)} {oc__law_divisor kV__law_divisor dc__law_divisor pm__law_divisor cd__law_divisor ct__law_divisor : Value} {A__law_is_integer : Addr} {od__law_is_integer an__law_is_integer : Option Addr} {sl__law_is_integer : Array (Option Value)} {oc__law_is_integer kV__law_is_integer dc__law_is_integer pm__law_is_integer cd__law_is_integer ct__law_is_integer : Value} {A__law_is_number : Addr} {od__law_is_number an__law_is_number : Option Addr} {sl__law_is_number : Array (Option Value)} {oc__law_is_number kV__law_is_number dc__law_is_number pm__law_is_number cd__law_is_number ct__law_is_number : Value} {A__law_is_within : Addr} {od__law_is_within an__law_is_within : Option Addr} {sl__law_is_within : Array (Option Value)} {oc__law_is_within kV__law_is_within dc__law_is_within pm__law_is_within cd__law_is_within ct__law_is_within : Value} {A__law_integer : Addr} {od__law_integer an__law_integer : Option Addr} {sl__law_integer : Array (Option Value)} {oc__law_integer kV__law_integer dc__law_integer pm__law_integer cd__law_integer ct__law_integer : Value} {A__law_thing : Addr} {od__law_thing an__law_thing : Option Addr} {sl__law_thing : Array (Option Value)} {oc__law_thing kV__law_thing dc__law_thing pm__law_thing cd__law_thing ct__law_thing : Value} {A__law_told : Addr} {od__law_told an__law_told : Option Addr} {sl__law_told : Array (Option Value)} {oc__law_told kV__law_told dc__law_told pm__law_told cd__law_told ct__law_told : Value} {A__law_quotient : Addr} {od__law_quotient an__law_quotient : Option Addr} {sl__law_quotient : Array (Option Value)} {oc__law_quotient kV__law_quotient dc__law_quotient pm__law_quotient cd__law_quotient ct__law_quotient : Value} {A__law_due : Addr} {od__law_due an__law_due : Option Addr} {sl__law_due : Array (Option Value)} {oc__law_due kV__law_due dc__law_due pm__law_due cd__law_due ct__law_due : Value} {A__law_right : Addr} {od__law_right an__law_right : Option Addr} {sl__law_right : Array (Option Value)} {oc__law_right kV__law_right dc__law_right pm__law_right cd__law_right ct__law_right : Value} {A_law : Addr} {od_law an_law : Option Addr} {sl_law : Array (Option Value)} {oc_law kV_law dc_law pm_law cd_law ct_law : Value} {A_InvalidNumber : Addr} {fI_InvalidNumber : Addr} {cc_InvalidNumber : Addr} {cda_InvalidNumber : Addr} {xoc_InvalidNumber : Value} {xdV_InvalidNumber : Value} {xkV_InvalidNumber : Value} {xdoc_InvalidNumber : Value} {xpm_InvalidNumber : Value} {xct_InvalidNumber : Value} {xcl_InvalidNumber : Value} {xccl_InvalidNumber : Value} {xod_InvalidNumber : Option Addr} {xan_InvalidNumber : Option Addr} {xcld_InvalidNumber : Option Addr} {xcdd_InvalidNumber : Option Addr} {xosl_InvalidNumber : Array (Option Value)} {xcsl_InvalidNumber : Array (Option Value)} {xccs_InvalidNumber : Array (Option Value)} {xqual_InvalidNumber : Str} {xmsg_InvalidNumber : Str} {xfile_InvalidNumber : Str} {xpar_InvalidNumber : Arguments} {xsc_InvalidNumber : Scope} {xkk_InvalidNumber : Nat} {xtf_InvalidNumber : Tok} {xvs_InvalidNumber : Array Value} {xp0_InvalidNumber xp1_InvalidNumber xp2_InvalidNumber xp3_InvalidNumber xp4_InvalidNumber xp5_InvalidNumber xp6_InvalidNumber xp7_InvalidNumber xp8_InvalidNumber xp9_InvalidNumber : Pos} {A_MissingError : Addr} {A_PaceError : Addr} {A_StateError : Addr} {zt_MOST_ABOVE : Tok} {zt_MOST_BELOW : Tok} {zt_MOST_PART : Tok} {A_ZERO : Addr} {zo_ZERO : Option Addr} {zn_ZERO : Nat} {zs_ZERO : Array (Option Value)} {zt_ZERO zu_ZERO : Tok}
    (a_is_integer : nsIn K mainGlobals "is_integer" = some (some (.ref A_is_integer)))
    (l_is_integer : K.lookup A_is_integer = some ⟨oc_is_integer, od_is_integer, .func (fnOf "is_integer" "is_integer" (defArgs s_is_integer) (defBody s_is_integer) (defScope s_is_integer) .none kV_is_integer dc_is_integer pm_is_integer an_is_integer cd_is_integer ct_is_integer), sl_is_integer⟩)
    (c_is_integer : codeIn K cd_is_integer "is_integer" = true)
    (k_is_integer : keepIn K (.ref A_is_integer) = true)
    (a_common_divisor : nsIn K mainGlobals "common_divisor" = some (some (.ref A_common_divisor)))
    (l_common_divisor : K.lookup A_common_divisor = some ⟨oc_common_divisor, od_common_divisor, .func (fnOf "common_divisor" "common_divisor" (defArgs s_common_divisor) (defBody s_common_divisor) (defScope s_common_divisor) .none kV_common_divisor dc_common_divisor pm_common_divisor an_common_divisor cd_common_divisor ct_common_divisor), sl_common_divisor⟩)
    (c_common_divisor : codeIn K cd_common_divisor "common_divisor" = true)
    (k_common_divisor : keepIn K (.ref A_common_divisor) = true)
    (a_reduced : nsIn K mainGlobals "reduced" = some (some (.ref A_reduced)))
    (l_reduced : K.lookup A_reduced = some ⟨oc_reduced, od_reduced, .func (fnOf "reduced" "reduced" (defArgs s_reduced) (defBody s_reduced) (defScope s_reduced) .none kV_reduced dc_reduced pm_reduced an_reduced cd_reduced ct_reduced), sl_reduced⟩)
    (c_reduced : codeIn K cd_reduced "reduced" = true)
    (k_reduced : keepIn K (.ref A_reduced) = true)
    (a_is_number : nsIn K mainGlobals "is_number" = some (some (.ref A_is_number)))
    (l_is_number : K.lookup A_is_number = some ⟨oc_is_number, od_is_number, .func (fnOf "is_number" "is_number" (defArgs s_is_number) (defBody s_is_number) (defScope s_is_number) .none kV_is_number dc_is_number pm_is_number an_is_number cd_is_number ct_is_number), sl_is_number⟩)
    (c_is_number : codeIn K cd_is_number "is_number" = true)
    (k_is_number : keepIn K (.ref A_is_number) = true)
    (a_is_positive : nsIn K mainGlobals "is_positive" = some (some (.ref A_is_positive)))
    (l_is_positive : K.lookup A_is_positive = some ⟨oc_is_positive, od_is_positive, .func (fnOf "is_positive" "is_positive" (defArgs s_is_positive) (defBody s_is_positive) (defScope s_is_positive) .none kV_is_positive dc_is_positive pm_is_positive an_is_positive cd_is_positive ct_is_positive), sl_is_positive⟩)
    (c_is_positive : codeIn K cd_is_positive "is_positive" = true)
    (k_is_positive : keepIn K (.ref A_is_positive) = true)
    (a_has_parts : nsIn K mainGlobals "has_parts" = some (some (.ref A_has_parts)))
    (l_has_parts : K.lookup A_has_parts = some ⟨oc_has_parts, od_has_parts, .func (fnOf "has_parts" "has_parts" (defArgs s_has_parts) (defBody s_has_parts) (defScope s_has_parts) .none kV_has_parts dc_has_parts pm_has_parts an_has_parts cd_has_parts ct_has_parts), sl_has_parts⟩)
    (c_has_parts : codeIn K cd_has_parts "has_parts" = true)
    (k_has_parts : keepIn K (.ref A_has_parts) = true)
    (a_is_factor : nsIn K mainGlobals "is_factor" = some (some (.ref A_is_factor)))
    (l_is_factor : K.lookup A_is_factor = some ⟨oc_is_factor, od_is_factor, .func (fnOf "is_factor" "is_factor" (defArgs s_is_factor) (defBody s_is_factor) (defScope s_is_factor) .none kV_is_factor dc_is_factor pm_is_factor an_is_factor cd_is_factor ct_is_factor), sl_is_factor⟩)
    (c_is_factor : codeIn K cd_is_factor "is_factor" = true)
    (k_is_factor : keepIn K (.ref A_is_factor) = true)
    (a_is_pace : nsIn K mainGlobals "is_pace" = some (some (.ref A_is_pace)))
    (l_is_pace : K.lookup A_is_pace = some ⟨oc_is_pace, od_is_pace, .func (fnOf "is_pace" "is_pace" (defArgs s_is_pace) (defBody s_is_pace) (defScope s_is_pace) .none kV_is_pace dc_is_pace pm_is_pace an_is_pace cd_is_pace ct_is_pace), sl_is_pace⟩)
    (c_is_pace : codeIn K cd_is_pace "is_pace" = true)
    (k_is_pace : keepIn K (.ref A_is_pace) = true)
    (a_is_length : nsIn K mainGlobals "is_length" = some (some (.ref A_is_length)))
    (l_is_length : K.lookup A_is_length = some ⟨oc_is_length, od_is_length, .func (fnOf "is_length" "is_length" (defArgs s_is_length) (defBody s_is_length) (defScope s_is_length) .none kV_is_length dc_is_length pm_is_length an_is_length cd_is_length ct_is_length), sl_is_length⟩)
    (c_is_length : codeIn K cd_is_length "is_length" = true)
    (k_is_length : keepIn K (.ref A_is_length) = true)
    (a_check_numbers : nsIn K mainGlobals "check_numbers" = some (some (.ref A_check_numbers)))
    (l_check_numbers : K.lookup A_check_numbers = some ⟨oc_check_numbers, od_check_numbers, .func (fnOf "check_numbers" "check_numbers" (defArgs s_check_numbers) (defBody s_check_numbers) (defScope s_check_numbers) .none kV_check_numbers dc_check_numbers pm_check_numbers an_check_numbers cd_check_numbers ct_check_numbers), sl_check_numbers⟩)
    (c_check_numbers : codeIn K cd_check_numbers "check_numbers" = true)
    (k_check_numbers : keepIn K (.ref A_check_numbers) = true)
    (a_number : nsIn K mainGlobals "number" = some (some (.ref A_number)))
    (l_number : K.lookup A_number = some ⟨oc_number, od_number, .func (fnOf "number" "number" (defArgs s_number) (defBody s_number) (defScope s_number) (.ref T_number) kV_number dc_number pm_number an_number cd_number ct_number), sl_number⟩)
    (c_number : codeIn K cd_number "number" = true)
    (k_number : keepIn K (.ref A_number) = true)
    (d_number : K.lookup T_number = some ⟨to_number, td_number, .seq #[.int 1 tt_number_0] tn_number, ts_number⟩)
    (a_number_text : nsIn K mainGlobals "number_text" = some (some (.ref A_number_text)))
    (l_number_text : K.lookup A_number_text = some ⟨oc_number_text, od_number_text, .func (fnOf "number_text" "number_text" (defArgs s_number_text) (defBody s_number_text) (defScope s_number_text) .none kV_number_text dc_number_text pm_number_text an_number_text cd_number_text ct_number_text), sl_number_text⟩)
    (c_number_text : codeIn K cd_number_text "number_text" = true)
    (k_number_text : keepIn K (.ref A_number_text) = true)
    (a__law_begin : nsIn K mainGlobals "_law_begin" = some (some (.ref A__law_begin)))
    (l__law_begin : K.lookup A__law_begin = some ⟨oc__law_begin, od__law_begin, .func (fnOf "_law_begin" "_law_begin" (defArgs s__law_begin) (defBody s__law_begin) (defScope s__law_begin) .none kV__law_begin dc__law_begin pm__law_begin an__law_begin cd__law_begin ct__law_begin), sl__law_begin⟩)
    (c__law_begin : codeIn K cd__law_begin "_law_begin" = true)
    (k__law_begin : keepIn K (.ref A__law_begin) = true)
    (a__law_mixed : nsIn K mainGlobals "_law_mixed" = some (some (.ref A__law_mixed)))
    (l__law_mixed : K.lookup A__law_mixed = some ⟨oc__law_mixed, od__law_mixed, .func (fnOf "_law_mixed" "_law_mixed" (defArgs s__law_mixed) (defBody s__law_mixed) (defScope s__law_mixed) .none kV__law_mixed dc__law_mixed pm__law_mixed an__law_mixed cd__law_mixed ct__law_mixed), sl__law_mixed⟩)
    (c__law_mixed : codeIn K cd__law_mixed "_law_mixed" = true)
    (k__law_mixed : keepIn K (.ref A__law_mixed) = true)
    (a__law_next : nsIn K mainGlobals "_law_next" = some (some (.ref A__law_next)))
    (l__law_next : K.lookup A__law_next = some ⟨oc__law_next, od__law_next, .func (fnOf "_law_next" "_law_next" (defArgs s__law_next) (defBody s__law_next) (defScope s__law_next) .none kV__law_next dc__law_next pm__law_next an__law_next cd__law_next ct__law_next), sl__law_next⟩)
    (c__law_next : codeIn K cd__law_next "_law_next" = true)
    (k__law_next : keepIn K (.ref A__law_next) = true)
    (a__law_divisor : nsIn K mainGlobals "_law_divisor" = some (some (.ref A__law_divisor)))
    (l__law_divisor : K.lookup A__law_divisor = some ⟨oc__law_divisor, od__law_divisor, .func (fnOf "_law_divisor" "_law_divisor" (defArgs s__law_divisor) (defBody s__law_divisor) (defScope s__law_divisor) .none kV__law_divisor dc__law_divisor pm__law_divisor an__law_divisor cd__law_divisor ct__law_divisor), sl__law_divisor⟩)
    (c__law_divisor : codeIn K cd__law_divisor "_law_divisor" = true)
    (k__law_divisor : keepIn K (.ref A__law_divisor) = true)
    (a__law_is_integer : nsIn K mainGlobals "_law_is_integer" = some (some (.ref A__law_is_integer)))
    (l__law_is_integer : K.lookup A__law_is_integer = some ⟨oc__law_is_integer, od__law_is_integer, .func (fnOf "_law_is_integer" "_law_is_integer" (defArgs s__law_is_integer) (defBody s__law_is_integer) (defScope s__law_is_integer) .none kV__law_is_integer dc__law_is_integer pm__law_is_integer an__law_is_integer cd__law_is_integer ct__law_is_integer), sl__law_is_integer⟩)
    (c__law_is_integer : codeIn K cd__law_is_integer "_law_is_integer" = true)
    (k__law_is_integer : keepIn K (.ref A__law_is_integer) = true)
    (a__law_is_number : nsIn K mainGlobals "_law_is_number" = some (some (.ref A__law_is_number)))
    (l__law_is_number : K.lookup A__law_is_number = some ⟨oc__law_is_number, od__law_is_number, .func (fnOf "_law_is_number" "_law_is_number" (defArgs s__law_is_number) (defBody s__law_is_number) (defScope s__law_is_number) .none kV__law_is_number dc__law_is_number pm__law_is_number an__law_is_number cd__law_is_number ct__law_is_number), sl__law_is_number⟩)
    (c__law_is_number : codeIn K cd__law_is_number "_law_is_number" = true)
    (k__law_is_number : keepIn K (.ref A__law_is_number) = true)
    (a__law_is_within : nsIn K mainGlobals "_law_is_within" = some (some (.ref A__law_is_within)))
    (l__law_is_within : K.lookup A__law_is_within = some ⟨oc__law_is_within, od__law_is_within, .func (fnOf "_law_is_within" "_law_is_within" (defArgs s__law_is_within) (defBody s__law_is_within) (defScope s__law_is_within) .none kV__law_is_within dc__law_is_within pm__law_is_within an__law_is_within cd__law_is_within ct__law_is_within), sl__law_is_within⟩)
    (c__law_is_within : codeIn K cd__law_is_within "_law_is_within" = true)
    (k__law_is_within : keepIn K (.ref A__law_is_within) = true)
    (a__law_integer : nsIn K mainGlobals "_law_integer" = some (some (.ref A__law_integer)))
    (l__law_integer : K.lookup A__law_integer = some ⟨oc__law_integer, od__law_integer, .func (fnOf "_law_integer" "_law_integer" (defArgs s__law_integer) (defBody s__law_integer) (defScope s__law_integer) .none kV__law_integer dc__law_integer pm__law_integer an__law_integer cd__law_integer ct__law_integer), sl__law_integer⟩)
    (c__law_integer : codeIn K cd__law_integer "_law_integer" = true)
    (k__law_integer : keepIn K (.ref A__law_integer) = true)
    (a__law_thing : nsIn K mainGlobals "_law_thing" = some (some (.ref A__law_thing)))
    (l__law_thing : K.lookup A__law_thing = some ⟨oc__law_thing, od__law_thing, .func (fnOf "_law_thing" "_law_thing" (defArgs s__law_thing) (defBody s__law_thing) (defScope s__law_thing) .none kV__law_thing dc__law_thing pm__law_thing an__law_thing cd__law_thing ct__law_thing), sl__law_thing⟩)
    (c__law_thing : codeIn K cd__law_thing "_law_thing" = true)
    (k__law_thing : keepIn K (.ref A__law_thing) = true)
    (a__law_told : nsIn K mainGlobals "_law_told" = some (some (.ref A__law_told)))
    (l__law_told : K.lookup A__law_told = some ⟨oc__law_told, od__law_told, .func (fnOf "_law_told" "_law_told" (defArgs s__law_told) (defBody s__law_told) (defScope s__law_told) .none kV__law_told dc__law_told pm__law_told an__law_told cd__law_told ct__law_told), sl__law_told⟩)
    (c__law_told : codeIn K cd__law_told "_law_told" = true)
    (k__law_told : keepIn K (.ref A__law_told) = true)
    (a__law_quotient : nsIn K mainGlobals "_law_quotient" = some (some (.ref A__law_quotient)))
    (l__law_quotient : K.lookup A__law_quotient = some ⟨oc__law_quotient, od__law_quotient, .func (fnOf "_law_quotient" "_law_quotient" (defArgs s__law_quotient) (defBody s__law_quotient) (defScope s__law_quotient) .none kV__law_quotient dc__law_quotient pm__law_quotient an__law_quotient cd__law_quotient ct__law_quotient), sl__law_quotient⟩)
    (c__law_quotient : codeIn K cd__law_quotient "_law_quotient" = true)
    (k__law_quotient : keepIn K (.ref A__law_quotient) = true)
    (a__law_due : nsIn K mainGlobals "_law_due" = some (some (.ref A__law_due)))
    (l__law_due : K.lookup A__law_due = some ⟨oc__law_due, od__law_due, .func (fnOf "_law_due" "_law_due" (defArgs s__law_due) (defBody s__law_due) (defScope s__law_due) .none kV__law_due dc__law_due pm__law_due an__law_due cd__law_due ct__law_due), sl__law_due⟩)
    (c__law_due : codeIn K cd__law_due "_law_due" = true)
    (k__law_due : keepIn K (.ref A__law_due) = true)
    (a__law_right : nsIn K mainGlobals "_law_right" = some (some (.ref A__law_right)))
    (l__law_right : K.lookup A__law_right = some ⟨oc__law_right, od__law_right, .func (fnOf "_law_right" "_law_right" (defArgs s__law_right) (defBody s__law_right) (defScope s__law_right) .none kV__law_right dc__law_right pm__law_right an__law_right cd__law_right ct__law_right), sl__law_right⟩)
    (c__law_right : codeIn K cd__law_right "_law_right" = true)
    (k__law_right : keepIn K (.ref A__law_right) = true)
    (a_law : nsIn K mainGlobals "law" = some (some (.ref A_law)))
    (l_law : K.lookup A_law = some ⟨oc_law, od_law, .func (fnOf "law" "law" (defArgs s_law) (defBody s_law) (defScope s_law) .none kV_law dc_law pm_law an_law cd_law ct_law), sl_law⟩)
    (c_law : codeIn K cd_law "law" = true)
    (k_law : keepIn K (.ref A_law) = true)
    (n_abs : nsIn K mainGlobals "abs" = some none)
    (n_bool : nsIn K mainGlobals "bool" = some none)
    (n_int : nsIn K mainGlobals "int" = some none)
    (n_isinstance : nsIn K mainGlobals "isinstance" = some none)
    (n_len : nsIn K mainGlobals "len" = some none)
    (n_max : nsIn K mainGlobals "max" = some none)
    (n_min : nsIn K mainGlobals "min" = some none)
    (n_range : nsIn K mainGlobals "range" = some none)
    (n_repr : nsIn K mainGlobals "repr" = some none)
    (n_str : nsIn K mainGlobals "str" = some none)
    (n_tuple : nsIn K mainGlobals "tuple" = some none)
    (n_super : nsIn K mainGlobals "super" = some none)
    (h_op : nsIn K cStatics "thirdparty.any" = some none)
    (a_InvalidNumber : nsIn K mainGlobals "InvalidNumber" = some (some (.ref A_InvalidNumber)))
    (k_InvalidNumber : keepIn K (.ref A_InvalidNumber) = true)
    (ei_InvalidNumber : excInitIn K A_InvalidNumber [.type "ValueError", .type "Exception", .type "BaseException", .type "object"] "ValueError.__new__" = true)
    (eo_InvalidNumber : excOver K A_InvalidNumber [.type "ValueError", .type "Exception", .type "BaseException", .type "object"] = true)
    (fi_InvalidNumber : findIn K (.ref A_InvalidNumber) "__init__" = some (some (.ref fI_InvalidNumber)))
    (if_InvalidNumber : isFn K (.ref fI_InvalidNumber) = true)
    (lf_InvalidNumber : K.lookup fI_InvalidNumber = some ⟨xoc_InvalidNumber, xod_InvalidNumber, .func (ksFn "__init__" xqual_InvalidNumber xpar_InvalidNumber (xBody xmsg_InvalidNumber "thing" xp0_InvalidNumber xp1_InvalidNumber xp2_InvalidNumber xp3_InvalidNumber xp4_InvalidNumber xp5_InvalidNumber xp6_InvalidNumber xp7_InvalidNumber xp8_InvalidNumber xp9_InvalidNumber xkk_InvalidNumber) xsc_InvalidNumber xdV_InvalidNumber xkV_InvalidNumber xdoc_InvalidNumber xpm_InvalidNumber xan_InvalidNumber (.ref cda_InvalidNumber) xct_InvalidNumber cc_InvalidNumber), xosl_InvalidNumber⟩)
    (co_InvalidNumber : codeIn K (.ref cda_InvalidNumber) xqual_InvalidNumber = true)
    (lc_InvalidNumber : K.lookup cc_InvalidNumber = some ⟨xcl_InvalidNumber, xcld_InvalidNumber, .cell (some (.ref A_InvalidNumber)), xcsl_InvalidNumber⟩)
    (ld_InvalidNumber : K.lookup cda_InvalidNumber = some ⟨xccl_InvalidNumber, xcdd_InvalidNumber, .fields xvs_InvalidNumber, xccs_InvalidNumber⟩)
    (lv_InvalidNumber : xvs_InvalidNumber[2]? = some (.str xfile_InvalidNumber xtf_InvalidNumber))
    (le_InvalidNumber : (P.main.file == xfile_InvalidNumber) = true)
    (lh_InvalidNumber : (xpar_InvalidNumber.posonlyargs ++ xpar_InvalidNumber.args).head?.map (·.arg) = some ("self" : Str))
    (b1_InvalidNumber : ∀ (s : Shared) (a b : Value), BindsTo s (ksFn "__init__" xqual_InvalidNumber xpar_InvalidNumber (xBody xmsg_InvalidNumber "thing" xp0_InvalidNumber xp1_InvalidNumber xp2_InvalidNumber xp3_InvalidNumber xp4_InvalidNumber xp5_InvalidNumber xp6_InvalidNumber xp7_InvalidNumber xp8_InvalidNumber xp9_InvalidNumber xkk_InvalidNumber) xsc_InvalidNumber xdV_InvalidNumber xkV_InvalidNumber xdoc_InvalidNumber xpm_InvalidNumber xan_InvalidNumber (.ref cda_InvalidNumber) xct_InvalidNumber cc_InvalidNumber) ⟨[a, b], []⟩ [("self", a), ("thing", b)])
    (b2_InvalidNumber : ∀ (s : Shared) (a b : Value), BindsTo s (ksFn "__init__" xqual_InvalidNumber xpar_InvalidNumber (xBody xmsg_InvalidNumber "thing" xp0_InvalidNumber xp1_InvalidNumber xp2_InvalidNumber xp3_InvalidNumber xp4_InvalidNumber xp5_InvalidNumber xp6_InvalidNumber xp7_InvalidNumber xp8_InvalidNumber xp9_InvalidNumber xkk_InvalidNumber) xsc_InvalidNumber xdV_InvalidNumber xkV_InvalidNumber xdoc_InvalidNumber xpm_InvalidNumber xan_InvalidNumber (.ref cda_InvalidNumber) xct_InvalidNumber cc_InvalidNumber) ⟨[a], [("thing", b)]⟩ [("self", a), ("thing", b)])
    (s0_InvalidNumber : xsc_InvalidNumber.names.lookup ("super" : Str) = some .globalImplicit)
    (s1_InvalidNumber : xsc_InvalidNumber.names.lookup ("__class__" : Str) = some .free)
    (s2_InvalidNumber : xsc_InvalidNumber.names.lookup ("self" : Str) = some .local)
    (s3_InvalidNumber : xsc_InvalidNumber.names.lookup ("thing" : Str) = some .local)
    (s4_InvalidNumber : ∀ x ∈ xsc_InvalidNumber.names, x.2 ≠ .cell)
    (s5_InvalidNumber : xsc_InvalidNumber.isCoroutine = false)
    (s6_InvalidNumber : xsc_InvalidNumber.isGenerator = false)
    (s7_InvalidNumber : xsc_InvalidNumber.kind = .function)
    (ev_InvalidNumber : ∀ L : Addr, ∃ pl : Sem Bool, eval (.Call (.Attribute (.Call (.Name "super" xp0_InvalidNumber) [] [] xp1_InvalidNumber) "__init__" xp2_InvalidNumber) [.Constant (.str xmsg_InvalidNumber) xkk_InvalidNumber xp3_InvalidNumber] [] xp4_InvalidNumber) (ksEnv xqual_InvalidNumber xsc_InvalidNumber L fI_InvalidNumber (.ref cda_InvalidNumber) cc_InvalidNumber) = (do let ov ← attributeBase (.Call (.Name "super" xp0_InvalidNumber) [] [] xp1_InvalidNumber) "__init__" (ksEnv xqual_InvalidNumber xsc_InvalidNumber L fI_InvalidNumber (.ref cda_InvalidNumber) cc_InvalidNumber) (eval (.Call (.Name "super" xp0_InvalidNumber) [] [] xp1_InvalidNumber) (ksEnv xqual_InvalidNumber xsc_InvalidNumber L fI_InvalidNumber (.ref cda_InvalidNumber) cc_InvalidNumber)); standAt xp2_InvalidNumber.atName; let (g, first) ← holding [ov] (getMethod ov "__init__" pl); callWith xp4_InvalidNumber g first (backTo xp4_InvalidNumber (starEach [.Constant (.str xmsg_InvalidNumber) xkk_InvalidNumber xp3_InvalidNumber] (ksEnv xqual_InvalidNumber xsc_InvalidNumber L fI_InvalidNumber (.ref cda_InvalidNumber) cc_InvalidNumber))) []))
    (su_InvalidNumber : ks_superIn K A_InvalidNumber A_InvalidNumber "__init__" = some (some (.builtin "ValueError.__init__")))
    (sB_InvalidNumber : subIn K (.ref A_InvalidNumber) (.type "ValueError") = some true)
    (sC_InvalidNumber : subIn K (.ref A_InvalidNumber) (.ref A_InvalidNumber) = some true)
    (sa_InvalidNumber : findIn K (.ref A_InvalidNumber) "__setattr__" = some (some (.builtin "object.__setattr__")))
    (tk_InvalidNumber : takerIn K A_InvalidNumber "thing" = some none)
    (hd_InvalidNumber : hasDictIn K A_InvalidNumber = true)
    (ex_InvalidNumber : subIn K (.ref A_InvalidNumber) (.type "BaseException") = some true)
    (ty_InvalidNumber : typeIn K (.ref A_InvalidNumber) = some (.type "type"))
    (ga_InvalidNumber : findIn K (.ref A_InvalidNumber) "__getattribute__" = some (some (.builtin "BaseException.__getattribute__")))
    (gg_InvalidNumber : findIn K (.ref A_InvalidNumber) "__getattr__" = some none)
    (ha_InvalidNumber : findIn K (.ref A_InvalidNumber) "__class__" = some (some (.builtin "object.__class__")))
    (hn_InvalidNumber : specialIn K (.builtin "object.__class__") "__get__" = some (some (.builtin "getset_descriptor.__get__")))
    (ht_InvalidNumber : takesIn K (.builtin "object.__class__") = some true)
    (hm_InvalidNumber : mroIn K A_InvalidNumber (.type "object") = some true)
    (hf_InvalidNumber : findIn K (.ref A_InvalidNumber) "thing" = some none)
    (a_MissingError : nsIn K mainGlobals "MissingError" = some (some (.ref A_MissingError)))
    (a_PaceError : nsIn K mainGlobals "PaceError" = some (some (.ref A_PaceError)))
    (a_StateError : nsIn K mainGlobals "StateError" = some (some (.ref A_StateError)))
    (h_top : (P.main.scope.names.lookup ("super" : Str)).isSome = false)
    (a_MOST_ABOVE : nsIn K mainGlobals "MOST_ABOVE" = some (some (.int 999999 zt_MOST_ABOVE)))
    (a_MOST_BELOW : nsIn K mainGlobals "MOST_BELOW" = some (some (.int 999 zt_MOST_BELOW)))
    (a_MOST_PART : nsIn K mainGlobals "MOST_PART" = some (some (.int 60 zt_MOST_PART)))
    (a_ZERO : nsIn K mainGlobals "ZERO" = some (some (.ref A_ZERO)))
    (l_ZERO : K.lookup A_ZERO = some ⟨.type "tuple", zo_ZERO, .seq #[.int 0 zt_ZERO, .int 1 zu_ZERO] zn_ZERO, zs_ZERO⟩)
    (e_InvalidNumber : exmAny K (.ref A_InvalidNumber) [.ref A_PaceError, .ref A_StateError, .ref A_MissingError] = some true)
    (i_InvalidNumber : kitOne K (.ref A_InvalidNumber) (.ref A_InvalidNumber) = some true) : ∃ D : Ad, Txt P K mg D ∧ D.law = fa := by
  have e := hfa.symm.trans (mg_of X G a_law)
  cases e
  exact ⟨⟨A_is_integer, A_common_divisor, A_reduced, A_is_number, A_is_positive, A_has_parts, A_is_factor, A_is_pace, A_is_length, A_check_numbers, A_number, A_number_text, A__law_begin, A__law_mixed, A__law_next, A__law_divisor, A__law_is_integer, A__law_is_number, A__law_is_within, A__law_integer, A__law_thing, A__law_told, A__law_quotient, A__law_due, A__law_right, fa, A_InvalidNumber, A_MissingError, A_PaceError, A_StateError, A_ZERO⟩, {
    f_is_integer := ⟨_, fun_mk (st := s_is_integer) l_is_integer c_is_integer k_is_integer⟩,
    g_is_integer := mg_of X G a_is_integer,
    k_is_integer := k_is_integer,
    f_common_divisor := ⟨_, fun_mk (st := s_common_divisor) l_common_divisor c_common_divisor k_common_divisor⟩,
    g_common_divisor := mg_of X G a_common_divisor,
    k_common_divisor := k_common_divisor,
    f_reduced := ⟨_, fun_mk (st := s_reduced) l_reduced c_reduced k_reduced⟩,
    g_reduced := mg_of X G a_reduced,
    k_reduced := k_reduced,
    f_is_number := ⟨_, fun_mk (st := s_is_number) l_is_number c_is_number k_is_number⟩,
    g_is_number := mg_of X G a_is_number,
    k_is_number := k_is_number,
    f_is_positive := ⟨_, fun_mk (st := s_is_positive) l_is_positive c_is_positive k_is_positive⟩,
    g_is_positive := mg_of X G a_is_positive,
    k_is_positive := k_is_positive,
    f_has_parts := ⟨_, fun_mk (st := s_has_parts) l_has_parts c_has_parts k_has_parts⟩,
    g_has_parts := mg_of X G a_has_parts,
    k_has_parts := k_has_parts,
    f_is_factor := ⟨_, fun_mk (st := s_is_factor) l_is_factor c_is_factor k_is_factor⟩,
    g_is_factor := mg_of X G a_is_factor,
    k_is_factor := k_is_factor,
    f_is_pace := ⟨_, fun_mk (st := s_is_pace) l_is_pace c_is_pace k_is_pace⟩,
    g_is_pace := mg_of X G a_is_pace,
    k_is_pace := k_is_pace,
    f_is_length := ⟨_, fun_mk (st := s_is_length) l_is_length c_is_length k_is_length⟩,
    g_is_length := mg_of X G a_is_length,
    k_is_length := k_is_length,
    f_check_numbers := ⟨_, fun_mk (st := s_check_numbers) l_check_numbers c_check_numbers k_check_numbers⟩,
    g_check_numbers := mg_of X G a_check_numbers,
    k_check_numbers := k_check_numbers,
    f_number := ⟨_, ⟨⟨_, _, _, _, _, _, _, _, _, _, rfl, l_number, c_number, .inr ⟨by simp, _, _, [.int 1 tt_number_0], _, rfl, d_number, rfl, (.cons (⟨_, rfl⟩) .nil)⟩, .inl rfl⟩, k_number⟩⟩,
    g_number := mg_of X G a_number,
    k_number := k_number,
    f_number_text := ⟨_, fun_mk (st := s_number_text) l_number_text c_number_text k_number_text⟩,
    g_number_text := mg_of X G a_number_text,
    k_number_text := k_number_text,
    f__law_begin := ⟨_, fun_mk (st := s__law_begin) l__law_begin c__law_begin k__law_begin⟩,
    g__law_begin := mg_of X G a__law_begin,
    k__law_begin := k__law_begin,
    f__law_mixed := ⟨_, fun_mk (st := s__law_mixed) l__law_mixed c__law_mixed k__law_mixed⟩,
    g__law_mixed := mg_of X G a__law_mixed,
    k__law_mixed := k__law_mixed,
    f__law_next := ⟨_, fun_mk (st := s__law_next) l__law_next c__law_next k__law_next⟩,
    g__law_next := mg_of X G a__law_next,
    k__law_next := k__law_next,
    f__law_divisor := ⟨_, fun_mk (st := s__law_divisor) l__law_divisor c__law_divisor k__law_divisor⟩,
    g__law_divisor := mg_of X G a__law_divisor,
    k__law_divisor := k__law_divisor,
    f__law_is_integer := ⟨_, fun_mk (st := s__law_is_integer) l__law_is_integer c__law_is_integer k__law_is_integer⟩,
    g__law_is_integer := mg_of X G a__law_is_integer,
    k__law_is_integer := k__law_is_integer,
    f__law_is_number := ⟨_, fun_mk (st := s__law_is_number) l__law_is_number c__law_is_number k__law_is_number⟩,
    g__law_is_number := mg_of X G a__law_is_number,
    k__law_is_number := k__law_is_number,
    f__law_is_within := ⟨_, fun_mk (st := s__law_is_within) l__law_is_within c__law_is_within k__law_is_within⟩,
    g__law_is_within := mg_of X G a__law_is_within,
    k__law_is_within := k__law_is_within,
    f__law_integer := ⟨_, fun_mk (st := s__law_integer) l__law_integer c__law_integer k__law_integer⟩,
    g__law_integer := mg_of X G a__law_integer,
    k__law_integer := k__law_integer,
    f__law_thing := ⟨_, fun_mk (st := s__law_thing) l__law_thing c__law_thing k__law_thing⟩,
    g__law_thing := mg_of X G a__law_thing,
    k__law_thing := k__law_thing,
    f__law_told := ⟨_, fun_mk (st := s__law_told) l__law_told c__law_told k__law_told⟩,
    g__law_told := mg_of X G a__law_told,
    k__law_told := k__law_told,
    f__law_quotient := ⟨_, fun_mk (st := s__law_quotient) l__law_quotient c__law_quotient k__law_quotient⟩,
    g__law_quotient := mg_of X G a__law_quotient,
    k__law_quotient := k__law_quotient,
    f__law_due := ⟨_, fun_mk (st := s__law_due) l__law_due c__law_due k__law_due⟩,
    g__law_due := mg_of X G a__law_due,
    k__law_due := k__law_due,
    f__law_right := ⟨_, fun_mk (st := s__law_right) l__law_right c__law_right k__law_right⟩,
    g__law_right := mg_of X G a__law_right,
    k__law_right := k__law_right,
    f_law := ⟨_, fun_mk (st := s_law) l_law c_law k_law⟩,
    g_law := mg_of X G a_law,
    k_law := k_law,
    n_abs := mg_none_of X G n_abs,
    n_bool := mg_none_of X G n_bool,
    n_int := mg_none_of X G n_int,
    n_isinstance := mg_none_of X G n_isinstance,
    n_len := mg_none_of X G n_len,
    n_max := mg_none_of X G n_max,
    n_min := mg_none_of X G n_min,
    n_range := mg_none_of X G n_range,
    n_repr := mg_none_of X G n_repr,
    n_str := mg_none_of X G n_str,
    n_tuple := mg_none_of X G n_tuple,
    g_InvalidNumber := mg_of X G a_InvalidNumber,
    k_InvalidNumber := k_InvalidNumber,
    x_InvalidNumber := ⟨PySem.F.excBase_ValueError, kxs_ValueError, PySem.F.store_ValueError, ei_InvalidNumber, eo_InvalidNumber, ⟨_, _, _, _, _, _, _, _, _, _, _, _, _, _, _, _, _, _, _, _, _, _, _, _, _, _, _, _, _, _, _, _, _, _, _, _, fi_InvalidNumber, if_InvalidNumber, lf_InvalidNumber, co_InvalidNumber, lc_InvalidNumber, ld_InvalidNumber, lv_InvalidNumber, le_InvalidNumber, lh_InvalidNumber, b1_InvalidNumber, b2_InvalidNumber, s0_InvalidNumber, s1_InvalidNumber, s2_InvalidNumber, s3_InvalidNumber, s4_InvalidNumber, s5_InvalidNumber, s6_InvalidNumber, s7_InvalidNumber, ev_InvalidNumber⟩, by decide, by decide, by decide, mg_none_of X G n_super, cls_some hd_InvalidNumber, su_InvalidNumber, sB_InvalidNumber, sC_InvalidNumber, h_op, sa_InvalidNumber, tk_InvalidNumber, hd_InvalidNumber, h_top⟩,
    z_InvalidNumber := fun Y e => raises_own (by rw [e]; exact ex_InvalidNumber) (by rw [e]; exact ty_InvalidNumber),
    t_InvalidNumber := ⟨cls_isSome hd_InvalidNumber, ga_InvalidNumber, gg_InvalidNumber, ex_InvalidNumber, hd_InvalidNumber, ha_InvalidNumber, hn_InvalidNumber, ht_InvalidNumber, hm_InvalidNumber⟩,
    h_InvalidNumber := hf_InvalidNumber,
    g_MissingError := mg_of X G a_MissingError,
    g_PaceError := mg_of X G a_PaceError,
    g_StateError := mg_of X G a_StateError,
    g_MOST_ABOVE := ⟨_, mg_of X G a_MOST_ABOVE, ⟨_, rfl⟩⟩,
    g_MOST_BELOW := ⟨_, mg_of X G a_MOST_BELOW, ⟨_, rfl⟩⟩,
    g_MOST_PART := ⟨_, mg_of X G a_MOST_PART, ⟨_, rfl⟩⟩,
    g_ZERO := ⟨_, mg_of X G a_ZERO, rfl⟩,
    q_ZERO := fun H => ⟨_, rfl, .inr ⟨_, _, _, l_ZERO, rfl, rfl, by rw [sizeLine_eq]; simp, .cons ⟨_, rfl⟩ (.cons ⟨_, rfl⟩ .nil)⟩⟩,
    e_InvalidNumber := e_InvalidNumber,
    i_InvalidNumber := i_InvalidNumber }, rfl⟩
theorem walk {l : OpenLaw} {q : Program} {loose : List Str} {XP : (Str → Option Value) → Heap → Prop} {YP : World → Heap → Prop} {d : DefRec} {K : Params → Frag} (hn : l.most = some 63) (hdf : d.params.defaults = [])
    (hY : ∀ (w : World) (h : Heap), YP w h → (K w.params).In h)
    (F : ∀ (w : World) (mg : Str → Option Value) (fa : Addr) (h : Heap), (K w.params).In h → h.Ns mainGlobals mg → mg d.name = some (.ref fa) → ∃ D : Ad, Txt l.prog (K w.params) mg D ∧ D.law = fa) :
    WalkO q loose XP YP l.row.toRowW d [] (fun f vs => PySem.call f vs) :=
  Rm.walk_ofG (n := 63) (k := 8) (sp := fun w => spLaw (K w.params)) hn (by decide) hdf ⟨rfl, by decide, by decide⟩ hY (fun w mg fa h KX G hmg base _ _ => by
    obtain ⟨D, T, e⟩ := F w mg fa h KX G hmg
    rw [← e]
    exact ok_law T) fun w H a ns hl _ hO hS => ⟨_, rfl, a, ns, rfl, hS, hl, fun _ => rfl⟩
end K2
open PySem PySem.W PyProof.Rows
set_option maxRecDepth 100000 in
set_option maxHeartbeats 0 in
theorem PySem.Challenge.cw_roompace_k02_numbers_recognized_holds : PySem.Challenge.rw_roompace_k02_numbers_recognized.Holds := by
  w_on; o_law; k_head; (case hw => w_witness2)
  k_fill
  refine K2.walk (l := PySem.Challenge.rw_roompace_k02_numbers_recognized) rfl rfl (fun w h Y => kIn_of Y) ?F
  case F =>
    intro w mg fa h KX G hmg
    refine' K2.all_mk KX G hmg ?a_is_integer ?l_is_integer ?c_is_integer ?k_is_integer ?a_common_divisor ?l_common_divisor ?c_common_divisor ?k_common_divisor ?a_reduced ?l_reduced ?c_reduced ?k_reduced ?a_is_number ?l_is_number ?c_is_number ?k_is_number ?a_is_positive ?l_is_positive ?c_is_positive ?k_is_positive ?a_has_parts ?l_has_parts ?c_has_parts ?k_has_parts ?a_is_factor ?l_is_factor ?c_is_factor ?k_is_factor ?a_is_pace ?l_is_pace ?c_is_pace ?k_is_pace ?a_is_length ?l_is_length ?c_is_length ?k_is_length ?a_check_numbers ?l_check_numbers ?c_check_numbers ?k_check_numbers ?a_number ?l_number ?c_number ?k_number ?d_number ?a_number_text ?l_number_text ?c_number_text ?k_number_text ?a__law_begin ?l__law_begin ?c__law_begin ?k__law_begin ?a__law_mixed ?l__law_mixed ?c__law_mixed ?k__law_mixed ?a__law_next ?l__law_next ?c__law_next ?k__law_next ?a__law_divisor ?l__law_divisor ?c__law_divisor ?k__law_divisor ?a__law_is_integer ?l__law_is_integer ?c__law_is_integer ?k__law_is_integer ?a__law_is_number ?l__law_is_number ?c__law_is_number ?k__law_is_number ?a__law_is_within ?l__law_is_within ?c__law_is_within ?k__law_is_within ?a__law_integer ?l__law_integer ?c__law_integer ?k__law_integer ?a__law_thing ?l__law_thing ?c__law_thing ?k__law_thing ?a__law_told ?l__law_told ?c__law_told ?k__law_told ?a__law_quotient ?l__law_quotient ?c__law_quotient ?k__law_quotient ?a__law_due ?l__law_due ?c__law_due ?k__law_due ?a__law_right ?l__law_right ?c__law_right ?k__law_right ?a_law ?l_law ?c_law ?k_law ?n_abs ?n_bool ?n_int ?n_isinstance ?n_len ?n_max ?n_min ?n_range ?n_repr ?n_str ?n_tuple ?n_super ?h_op ?a_InvalidNumber ?k_InvalidNumber ?ei_InvalidNumber ?eo_InvalidNumber ?fi_InvalidNumber ?if_InvalidNumber ?lf_InvalidNumber ?co_InvalidNumber ?lc_InvalidNumber ?ld_InvalidNumber ?lv_InvalidNumber ?le_InvalidNumber ?lh_InvalidNumber ?b1_InvalidNumber ?b2_InvalidNumber ?s0_InvalidNumber ?s1_InvalidNumber ?s2_InvalidNumber ?s3_InvalidNumber ?s4_InvalidNumber ?s5_InvalidNumber ?s6_InvalidNumber ?s7_InvalidNumber ?ev_InvalidNumber ?su_InvalidNumber ?sB_InvalidNumber ?sC_InvalidNumber ?sa_InvalidNumber ?tk_InvalidNumber ?hd_InvalidNumber ?ex_InvalidNumber ?ty_InvalidNumber ?ga_InvalidNumber ?gg_InvalidNumber ?ha_InvalidNumber ?hn_InvalidNumber ?ht_InvalidNumber ?hm_InvalidNumber ?hf_InvalidNumber ?a_MissingError ?a_PaceError ?a_StateError ?h_top ?a_MOST_ABOVE ?a_MOST_BELOW ?a_MOST_PART ?a_ZERO ?l_ZERO ?e_InvalidNumber ?i_InvalidNumber
    (case a_is_integer => k_is)
    (case l_is_integer => k_is)
    (case c_is_integer => k_is)
    (case k_is_integer => k_is)
    (case a_common_divisor => k_is)
    (case l_common_divisor => k_is)
    (case c_common_divisor => k_is)
    (case k_common_divisor => k_is)
    (case a_reduced => k_is)
    (case l_reduced => k_is)
    (case c_reduced => k_is)
    (case k_reduced => k_is)
    (case a_is_number => k_is)
    (case l_is_number => k_is)
    (case c_is_number => k_is)
    (case k_is_number => k_is)
    (case a_is_positive => k_is)
    (case l_is_positive => k_is)
    (case c_is_positive => k_is)
    (case k_is_positive => k_is)
    (case a_has_parts => k_is)
    (case l_has_parts => k_is)
    (case c_has_parts => k_is)
    (case k_has_parts => k_is)
    (case a_is_factor => k_is)
    (case l_is_factor => k_is)
    (case c_is_factor => k_is)
    (case k_is_factor => k_is)
    (case a_is_pace => k_is)
    (case l_is_pace => k_is)
    (case c_is_pace => k_is)
    (case k_is_pace => k_is)
    (case a_is_length => k_is)
    (case l_is_length => k_is)
    (case c_is_length => k_is)
    (case k_is_length => k_is)
    (case a_check_numbers => k_is)
    (case l_check_numbers => k_is)
    (case c_check_numbers => k_is)
    (case k_check_numbers => k_is)
    (case a_number => k_is)
    (case l_number => k_is)
    (case c_number => k_is)
    (case k_number => k_is)
    (case d_number => k_is)
    (case a_number_text => k_is)
    (case l_number_text => k_is)
    (case c_number_text => k_is)
    (case k_number_text => k_is)
    (case a__law_begin => k_is)
    (case l__law_begin => k_is)
    (case c__law_begin => k_is)
    (case k__law_begin => k_is)
    (case a__law_mixed => k_is)
    (case l__law_mixed => k_is)
    (case c__law_mixed => k_is)
    (case k__law_mixed => k_is)
    (case a__law_next => k_is)
    (case l__law_next => k_is)
    (case c__law_next => k_is)
    (case k__law_next => k_is)
    (case a__law_divisor => k_is)
    (case l__law_divisor => k_is)
    (case c__law_divisor => k_is)
    (case k__law_divisor => k_is)
    (case a__law_is_integer => k_is)
    (case l__law_is_integer => k_is)
    (case c__law_is_integer => k_is)
    (case k__law_is_integer => k_is)
    (case a__law_is_number => k_is)
    (case l__law_is_number => k_is)
    (case c__law_is_number => k_is)
    (case k__law_is_number => k_is)
    (case a__law_is_within => k_is)
    (case l__law_is_within => k_is)
    (case c__law_is_within => k_is)
    (case k__law_is_within => k_is)
    (case a__law_integer => k_is)
    (case l__law_integer => k_is)
    (case c__law_integer => k_is)
    (case k__law_integer => k_is)
    (case a__law_thing => k_is)
    (case l__law_thing => k_is)
    (case c__law_thing => k_is)
    (case k__law_thing => k_is)
    (case a__law_told => k_is)
    (case l__law_told => k_is)
    (case c__law_told => k_is)
    (case k__law_told => k_is)
    (case a__law_quotient => k_is)
    (case l__law_quotient => k_is)
    (case c__law_quotient => k_is)
    (case k__law_quotient => k_is)
    (case a__law_due => k_is)
    (case l__law_due => k_is)
    (case c__law_due => k_is)
    (case k__law_due => k_is)
    (case a__law_right => k_is)
    (case l__law_right => k_is)
    (case c__law_right => k_is)
    (case k__law_right => k_is)
    (case a_law => k_is)
    (case l_law => k_is)
    (case c_law => k_is)
    (case k_law => k_is)
    (case n_abs => k_is)
    (case n_bool => k_is)
    (case n_int => k_is)
    (case n_isinstance => k_is)
    (case n_len => k_is)
    (case n_max => k_is)
    (case n_min => k_is)
    (case n_range => k_is)
    (case n_repr => k_is)
    (case n_str => k_is)
    (case n_tuple => k_is)
    (case n_super => k_is)
    (case h_op => k_is)
    (case a_InvalidNumber => k_is)
    (case k_InvalidNumber => k_is)
    (case ei_InvalidNumber => kernel_rfl)
    (case eo_InvalidNumber => kernel_rfl)
    (case fi_InvalidNumber => k_is)
    (case if_InvalidNumber => k_is)
    (case lf_InvalidNumber => k_is)
    (case co_InvalidNumber => k_is)
    (case lc_InvalidNumber => k_is)
    (case ld_InvalidNumber => k_is)
    (case lv_InvalidNumber => rfl)
    (case le_InvalidNumber => first | rfl | decide +kernel)
    (case lh_InvalidNumber => rfl)
    (case b1_InvalidNumber => exact fun _ _ _ => .of_eq rfl)
    (case b2_InvalidNumber => exact fun _ _ _ => .of_eq rfl)
    (case s0_InvalidNumber => first | rfl | decide +kernel)
    (case s1_InvalidNumber => first | rfl | decide +kernel)
    (case s2_InvalidNumber => first | rfl | decide +kernel)
    (case s3_InvalidNumber => first | rfl | decide +kernel)
    (case s4_InvalidNumber => decide +kernel)
    (case s5_InvalidNumber => rfl)
    (case s6_InvalidNumber => rfl)
    (case s7_InvalidNumber => rfl)
    (case ev_InvalidNumber => exact fun _ => ⟨_, rfl⟩)
    (case su_InvalidNumber => kernel_rfl)
    (case sB_InvalidNumber => k_is)
    (case sC_InvalidNumber => k_is)
    (case sa_InvalidNumber => k_is)
    (case tk_InvalidNumber => k_is)
    (case hd_InvalidNumber => k_is)
    (case ex_InvalidNumber => k_is)
    (case ty_InvalidNumber => k_is)
    (case ga_InvalidNumber => k_is)
    (case gg_InvalidNumber => k_is)
    (case ha_InvalidNumber => k_is)
    (case hn_InvalidNumber => k_is)
    (case ht_InvalidNumber => k_is)
    (case hm_InvalidNumber => k_is)
    (case hf_InvalidNumber => k_is)
    (case a_MissingError => k_is)
    (case a_PaceError => k_is)
    (case a_StateError => k_is)
    (case h_top => first | rfl | decide +kernel)
    (case a_MOST_ABOVE => k_is)
    (case a_MOST_BELOW => k_is)
    (case a_MOST_PART => k_is)
    (case a_ZERO => k_is)
    (case l_ZERO => k_is)
    (case e_InvalidNumber => kernel_rfl)
    (case i_InvalidNumber => kernel_rfl)
