import PyProof.Rows.All
import Wide.All
import OpenK.AllK
import Wide.FinOn
import KE.KExcSuper
import KE.KExcInit
import KE.KTryMore
import HandS.ForMost
import HandS.ForExc
import HandS.ExcInit
import HandS.ExcIs
import KE.KExcIs
import HandS.IsInst
import HandS.ExcField
import HandS.Star
import HandS.Wide
import HandS.Evl
import HandS.EndBits
import HandS.Defaults
import PyProof.ReprRoads
import HandS.Style
import HandS.FStr
import KE.KUnpackStar
import HandS.Comp
import HandS.Walk
import HandS.Codes
import KE.IntTextText
import HandS.Lambda
import HandS.EndTab
import PyProof.ListStr
import PyProof.StrOps2
import PyProof.SliceStr2
import HandS.Head0
import HandS.Head1
import HandS.Head2
import HandS.HeadEnd
import HandS.HeadHook1
import HandS.HeadHook2
import HandS.HeadHook3
import HandS.HeadHook4
import PyProof.StrLawsRepr
import PySem.Challenge.RW_roompace_k40_texts_of_numbers
set_option Elab.async false
set_option linter.all false
set_option maxRecDepth 100000
set_option maxHeartbeats 4000000
/-! Making an exception of an own class whose __init__ says super().__init__(text) and then self.field = argument. -/
namespace Rm
open PySem PySem.W PySem.Calls PyProof.Rows

/-- the two statements of such an __init__ -/
def xBody (msg fld : Str) (p0 p1 p2 p3 p4 p5 p6 p7 p8 p9 : Pos) (k : Nat) : List Stmt :=
  [.Expr (.Call (.Attribute (.Call (.Name "super" p0) [] [] p1) "__init__" p2) [.Constant (.str msg) k p3] [] p4) p5,
   .Assign [.Attribute (.Name "self" p6) fld p7] (.Name fld p8) p9]

/-- what the written part says of such a class -/
structure XCls (prog : Program) (K : Frag) (mg : Str → Option Value) (B newId initId : String) (bmB : List Value) (fld : Str) (C : Addr) : Prop where
  fb : ExcBaseFacts B newId initId bmB
  kf : KxsFacts B initId
  sf : StoreFacts B bmB "object.__setattr__" "object"
  ei : excInitIn K C bmB newId = true
  eo : excOver K C bmB = true
  fn : ∃ (fI cc cda : Addr) (oc : Value) (od : Option Addr) (osl : Array (Option Value)) (qual : Str) (params : Arguments) (scope : Scope) (dV kV doc pm ct : Value) (an : Option Addr) (msg : Str)
      (p0 p1 p2 p3 p4 p5 p6 p7 p8 p9 : Pos) (kk : Nat) (cl : Value) (cld : Option Addr) (csl : Array (Option Value)) (ccl : Value) (cdd : Option Addr) (vs : Array Value) (ccs : Array (Option Value)) (file : Str) (tf : Tok),
    findIn K (.ref C) "__init__" = some (some (.ref fI)) ∧ isFn K (.ref fI) = true ∧
    K.lookup fI = some ⟨oc, od, .func (ksFn "__init__" qual params (xBody msg fld p0 p1 p2 p3 p4 p5 p6 p7 p8 p9 kk) scope dV kV doc pm an (.ref cda) ct cc), osl⟩ ∧
    codeIn K (.ref cda) qual = true ∧
    K.lookup cc = some ⟨cl, cld, .cell (some (.ref C)), csl⟩ ∧
    K.lookup cda = some ⟨ccl, cdd, .fields vs, ccs⟩ ∧ vs[2]? = some (.str file tf) ∧ ((prog.main.file : Str) == file) = true ∧
    (params.posonlyargs ++ params.args).head?.map (·.arg) = some ("self" : Str) ∧
    (∀ (s : Shared) (a b : Value), BindsTo s (ksFn "__init__" qual params (xBody msg fld p0 p1 p2 p3 p4 p5 p6 p7 p8 p9 kk) scope dV kV doc pm an (.ref cda) ct cc) ⟨[a, b], []⟩ [("self", a), (fld, b)]) ∧
    (∀ (s : Shared) (a b : Value), BindsTo s (ksFn "__init__" qual params (xBody msg fld p0 p1 p2 p3 p4 p5 p6 p7 p8 p9 kk) scope dV kV doc pm an (.ref cda) ct cc) ⟨[a], [(fld, b)]⟩ [("self", a), (fld, b)]) ∧
    scope.names.lookup ("super" : Str) = some .globalImplicit ∧ scope.names.lookup ("__class__" : Str) = some .free ∧ scope.names.lookup ("self" : Str) = some .local ∧ scope.names.lookup fld = some .local ∧
    (∀ x ∈ scope.names, x.2 ≠ .cell) ∧ scope.isCoroutine = false ∧ scope.isGenerator = false ∧ scope.kind = .function ∧
    (∀ L : Addr, ∃ pl : Sem Bool, eval (.Call (.Attribute (.Call (.Name "super" p0) [] [] p1) "__init__" p2) [.Constant (.str msg) kk p3] [] p4) (ksEnv qual scope L fI (.ref cda) cc) = (do
      let ov ← attributeBase (.Call (.Name "super" p0) [] [] p1) "__init__" (ksEnv qual scope L fI (.ref cda) cc) (eval (.Call (.Name "super" p0) [] [] p1) (ksEnv qual scope L fI (.ref cda) cc))
      standAt p2.atName
      let (g, first) ← holding [ov] (getMethod ov "__init__" pl)
      callWith p4 g first (backTo p4 (starEach [.Constant (.str msg) kk p3] (ksEnv qual scope L fI (.ref cda) cc))) []))
  fs : ¬ ("self" : Str) = fld
  fd : (fld == ("__debug__" : Str)) = false
  fcd : (fld == ("__classdict__" : Str)) = false
  su : mg "super" = none
  cd : ∃ cd, clsIn K C = some cd
  sup : ks_superIn K C C "__init__" = some (some (.builtin initId))
  sB : subIn K (.ref C) (.type B) = some true
  sC : subIn K (.ref C) (.ref C) = some true
  op : nsIn K cStatics "thirdparty.any" = some none
  sa : findIn K (.ref C) "__setattr__" = some (some (.builtin "object.__setattr__"))
  tk : takerIn K C fld = some none
  hd : hasDictIn K C = true
  top : (prog.main.scope.names.lookup ("super" : Str)).isSome = false
end Rm
namespace Rm
open PySem PySem.W PySem.Calls PyProof.Rows
open Builtin Builtin.ObjectAttr
section
variable {prog : Program} {w : World} {A : Around} {E : Value → Shared → Prop} {R : Result → Shared → Prop} {s : Shared} {K : Frag} {mg mb : Str → Option Value} {B newId initId fieldN : String} {bmB : List Value} {fld : Str} {C : Addr}

/-- self.fld = v on an exception that has no dict yet, any base -/
theorem x_store {x t : Addr} {v : Value} {tk : Tok} (T : XCls prog K mg B newId initId bmB fld C) (X : K.In s.heap) (hx : s.heap.get? x = some (excObj C t none .none))
    (hq : ∀ h' tk' dx, (∀ b o, b ≠ x → s.heap.get? b = some o → h'.get? b = some o) → s.heap.objs.size ≤ dx → dx ≠ x → h'.get? x = some (excObj C t (some dx) .none) →
      h'.Ns1 dx (fun y => if y = fld then some v else none) → R (.ok (.ret .none)) { s with heap := h', toks := tk' }) :
    codeAny (model prog w) A (.call (.builtin "object.__setattr__") ⟨[.ref x, .str fld tk, v], []⟩) R s := by
  have I : InstAt s.heap x (excObj C t none .none) C none := ⟨hx, rfl, rfl, trivial⟩
  have hxs : x ≠ s.heap.objs.size := Nat.ne_of_lt (Heap.lt_size hx)
  obtain ⟨cd, hcd⟩ := T.cd
  have hcls : Looks (model prog w) s.heap (classData C) cd := looks_clsIn X hcd
  have hh : cd.hasDict = true := by
    have := T.hd
    unfold hasDictIn at this
    rw [hcd] at this
    exact this
  refine osa_openX T.sf X I T.eo T.tk fun b => ?_
  obtain ⟨hp, g, d, t0, os⟩ := s
  obtain ⟨nm, bs, mro, ns, qn, hd', sn, sb, ab, col, del⟩ := cd
  dsimp only at hh
  subst hh
  show wpAny _ _ (storeInOwnDict (.ref x) (.ref C) (.str fld tk) fld v b) _ _ _
  unfold storeInOwnDict ownDictForStores
  repeat (first | with_reducible refine HandSPX.store_in_new ?_ ?_ | with_reducible refine wpAny_loadPart_at hx ?_ | with_reducible refine hcls.at ?_ | wp_step)
  · exact ⟨_, #[], _, (Heap.get?_update_ne _ _ _ _ hxs.symm).trans (Heap.get?_push_at rfl rfl), rfl, fun e he => absurd he (by simp), fun _ => rfl⟩
  · intro h' tk' hn' hs
    have hx1 := Heap.get?_push_of_some (h := hp) { cls := .type "dict", data := .dict #[] } hx
    refine hq h' tk' hp.objs.size (fun b o hb ho => ?_) (Nat.le_refl _) hxs.symm ?_ hn'
    · exact (hs.2 b (Nat.ne_of_lt (Heap.lt_size ho))).trans ((Heap.get?_update_ne _ _ _ _ hb).trans (Heap.get?_push_of_some _ ho))
    · exact (hs.2 x hxs).trans (Heap.get?_update_self _ hx1 rfl)
end
end Rm
namespace Rm
open PySem PySem.W PySem.Calls PyProof.Rows
section
variable {prog : Program} {w : World} {A : Around} {E : Value → Shared → Prop} {R : Result → Shared → Prop} {s : Shared} {K : Frag} {mg mb : Str → Option Value} {B newId initId fieldN : String} {bmB : List Value} {fld : Str} {C : Addr}

/-- the globals and the built-ins stand in the heap -/
structure Gnd (K : Frag) (mg : Str → Option Value) (h : Heap) : Prop where
  k : K.In h
  g : h.Ns mainGlobals mg
  b : ∃ mb, h.Ns builtinsNs mb ∧ ∀ x : Str, x ≠ "__name__" → mb x = bootBuiltins x
  l : h.NoLimit
theorem Gnd.keeps {h h' : Heap} (G : Gnd K mg h) (k : ∀ b o, h.get? b = some o → h'.get? b = some o) : Gnd K mg h' := by
  obtain ⟨a, b, ⟨mb, c, d⟩, l⟩ := G
  exact ⟨a.keeps k, b.keeps k, ⟨mb, c.keeps k, d⟩, l.keeps k⟩

theorem x_body {e t L f cc cda : Addr} {q msg : Str} {scope : Scope} {u : Value} {p0 p1 p2 p3 p4 p5 p6 p7 p8 p9 : Pos} {kk : Nat}
    {body : List Stmt} {of oc : Obj} {fd : FuncData} {ar : Arg} {vs : Array Value} {file : Str} {tf : Tok} {m : Str → Option Value}
    (T : XCls prog K mg B newId initId bmB fld C) (G : Gnd K mg s.heap) (he : s.heap.get? e = some (excObj C t none .none)) (heK : K.lookup e = none)
    (hL : s.heap.Ns L m) (m1 : m "self" = some (.ref e)) (m2 : m fld = some u)
    (hf : s.heap.get? f = some of) (hfd : of.data = .func fd) (hp : (fd.params.posonlyargs ++ fd.params.args).head? = some ar) (har : ar.arg = "self")
    (hcc : s.heap.get? cda = some oc) (hoc : oc.data = .fields vs) (hvs : vs[2]? = some (.str file tf)) (hfile : ((prog.main.file : Str) == file) = true)
    (hcell : s.heap.IsCell cc (some (.ref C)))
    (sk1 : scope.names.lookup ("super" : Str) = some .globalImplicit) (sk2 : scope.names.lookup ("__class__" : Str) = some .free) (sk3 : scope.names.lookup ("self" : Str) = some .local) (sk4 : scope.names.lookup fld = some .local)
    (hk : scope.kind = .function) {pl : Sem Bool}
    (hev : eval (.Call (.Attribute (.Call (.Name "super" p0) [] [] p1) "__init__" p2) [.Constant (.str msg) kk p3] [] p4) (ksEnv q scope L f (.ref cda) cc) = (do
      let ov ← attributeBase (.Call (.Name "super" p0) [] [] p1) "__init__" (ksEnv q scope L f (.ref cda) cc) (eval (.Call (.Name "super" p0) [] [] p1) (ksEnv q scope L f (.ref cda) cc))
      standAt p2.atName
      let (g, first) ← holding [ov] (getMethod ov "__init__" pl)
      callWith p4 g first (backTo p4 (starEach [.Constant (.str msg) kk p3] (ksEnv q scope L f (.ref cda) cc))) []))
    (hq : ∀ h' t1 dx tk', (∀ b o, b ≠ e → s.heap.get? b = some o → h'.get? b = some o) → s.heap.objs.size ≤ dx → dx ≠ e → h'.get? e = some (excObj C t1 (some dx) .none) →
      h'.Ns1 dx (fun y => if y = fld then some u else none) → R (.ok (.ret .none)) { s with heap := h', toks := tk' }) :
    _root_.PySem.wpAt (model prog w) A (.func body (ksEnv q scope L f (.ref cda) cc)) (execs (xBody msg fld p0 p1 p2 p3 p4 p5 p6 p7 p8 p9 kk) (ksEnv q scope L f (.ref cda) cc))
      (fun fl s' => R (.ok (.ret (match fl with | .ret v => v | _ => .none))) s') E s := by
  obtain ⟨cd, hcd⟩ := T.cd
  obtain ⟨mb, hmb, hbb⟩ := G.b
  have eL : L ≠ e := fun z => by
    obtain ⟨oL, es, ep, h1, h2, _⟩ := hL
    rw [z, he] at h1
    cases h1
    cases h2
  unfold xBody
  refine ks_wpAt_execs_cons (ks_wpAt_Expr_any (ks_wpAt_MethodCall (ks_wpAt_super_base (env := ksEnv q scope L f (.ref cda) cc) sk1 sk2 (by decide +kernel) rfl hf hfd hp rfl hcc hoc hvs hfile T.top ?_) hev) (by unfold interactive; simp [hk]; done))
  obtain ⟨hh, g, d, t0, os⟩ := s
  obtain ⟨oD, hD1, hD2⟩ : ∃ oD, hh.get? C = some oD ∧ oD.data = .cls cd := by
    unfold clsIn at hcd
    split at hcd
    · rename_i c d cd' sl ho
      cases hcd
      exact ⟨_, G.k _ _ ho, rfl⟩
    · cases hcd
  refine ks_loadName_global hk sk1 (loadGlobal_builtin (env := ksEnv q scope L f (.ref cda) cc) G.g T.su hmb ((hbb _ (by decide +kernel)).trans (by decide +kernel)) ⟨rfl, ?_⟩)
  refine wpAny_loadName_free hk sk2 rfl hcell ?_
  refine wpAny_loadName_local hk (by rw [har]; exact sk3) hL (by rw [har]; exact m1) ?_
  refine ks_wpAny_isType_cls hD1 hD2 ⟨rfl, ?_⟩
  refine ks_wpAny_call_super hD1 hD2 he rfl (fun c z => by cases z) (looks_subIn G.k T.sC) (fun h1 hso k1 => ?_)
  have G1 := G.keeps (h' := h1) k1
  have he1 := k1 _ _ he
  have I1 : InstAt h1 e (excObj C t none .none) C none := ⟨he1, rfl, rfl, trivial⟩
  have hI : Looks (model prog w) h1 (isInstance (.ref e) (.type B)) true := I1.type.andThen (looks_subIn G1.k T.sB)
  have hsp := T.sup
  unfold ks_superIn at hsp
  rw [hcd] at hsp
  refine kxs_getMethod T.kf hso (looks_opaque G1.k T.op) (l₀ := cd.mro) (fun A Q E s k q => wpAny_bind ((looks_clsIn G1.k hcd) A _ E s k (wpAny_pure q))) rfl G1.k hsp hI (fun z => ?_) (by decide +kernel) ?_
  · rw [z, hD1] at he
    cases he
    cases hD2
  -- the method-wrapper stands
  have hmw : (h1.push (kxs_mw initId e)).get? h1.objs.size = some (kxs_mw initId e) := Heap.get?_push_at rfl rfl
  have k2 : ∀ b o, h1.get? b = some o → (h1.push (kxs_mw initId e)).get? b = some o := fun b o z => Heap.get?_push_of_some _ z
  have he2 := k2 _ _ he1
  refine kxs_callWith (i := initId) (x := e) rfl ?_
  have hse : starEach [Expr.Constant (.str msg) kk p3] (ksEnv q scope L f (.ref cda) cc) = (false, eval (.Constant (.str msg) kk p3) (ksEnv q scope L f (.ref cda) cc)) :: starEach [] (ksEnv q scope L f (.ref cda) cc) := by rfl
  rw [hse]
  refine evalArgs_plain ?_
  have goal : ∀ {Q : List Value → Shared → Prop} {s1 : Shared}, (∀ tk, Q [.str msg tk] { s1 with toks := s1.toks + 1 }) → wpAny (model prog w) A (spliced (backTo p4 (starEach [Expr.Constant (.str msg) kk p3] (ksEnv q scope L f (.ref cda) cc)))) Q E s1 := fun {Q s1} h =>
    spliced_more (wpAny_Constant_str (spliced_none (h _)))
  refine goal fun tk => ⟨hmw, ?_⟩
  -- BaseException.__init__ lays the args anew
  obtain ⟨nm, N', qn, bs, bm, hdct, sn, sub, ab, col, dd, k0, k3, k4, k5, k6, hC, hT⟩ := excInit_of G1.k T.ei
  refine wpAny_call (codeAny_of_tree ?_)
  show wpAny _ A.in1 (callAny (.ref h1.objs.size) ⟨[.str msg tk], []⟩) _ _ _
  simp only [callAny]
  refine wpAny_bind (wpAny_load hmw ?_)
  simp only [kxs_mw]
  refine KFB.if_so (by decide) (wpAny_bind (check_bound_init T.fb.toExcCallFacts (k2 _ _ hC) he2 rfl ?_))
  refine wpAny_bind (wpAny_pure (wpAny_pure ⟨plainId_quiet T.fb.init.plain _, codeAny_builtin T.fb.initEntry ?_⟩))
  refine exc_init_tree (cls := .ref C) (t0 := t) (dv := none) (c2 := .none) (c3 := .none) (b4 := .bool false) he2 (by rw [sizeLine_eq]; show 1 ≤ 16777216; decide) (fun h3 k3' he3 _ => ?_)
  have k13 : ∀ b o, b ≠ e → hh.get? b = some o → h3.get? b = some o := fun b o hb z => k3' b o hb (k2 _ _ (k1 _ _ z))
  have X3 : K.In h3 := fun b o z => k13 b o (fun y => by
    rw [y, heK] at z
    cases z) (G.k _ _ z)
  have hL3 : h3.Ns L m := by
    obtain ⟨oL, es, ep, z1, z2⟩ := hL
    exact ⟨oL, es, ep, k13 _ _ eL z1, z2⟩
  -- self.field = field
  refine wpAt_of_wpAny (wpAny_execs_cons (plainObj_wpAny_Assign_Attribute (wpAny_Name (wpAny_loadName_local hk sk4 hL3 m2 ?_) T.fd) rfl))
  refine wpAny_Name (wpAny_loadName_local hk sk3 hL3 m1 ?_) (by decide)
  refine set_plain X3 (ox := excObj C _ none .none) (od := none) ⟨he3, rfl, rfl, trivial⟩ T.sa ?_
  refine x_store T X3 he3 fun h4 tk' dx k4' hdx hde he4 hn4 => ?_
  refine wpAny_execs_nil ?_
  have sz : hh.objs.size ≤ dx := by
    exact Nat.le_trans (Nat.le_of_lt (Heap.lt_size (k3' _ _ (Nat.ne_of_gt (Heap.lt_size he)) (k2 _ _ hso)))) hdx
  exact hq h4 _ dx tk' (fun b o hb z => k4' b o hb (k13 b o hb z)) sz hde he4 hn4

/-- the call of such an __init__: R of the answer None, whatever the tokens -/
theorem x_call {e t fI : Addr} {u : Value} {args : Args} (T : XCls prog K mg B newId initId bmB fld C) (G : Gnd K mg s.heap) (he : s.heap.get? e = some (excObj C t none .none)) (heK : K.lookup e = none) (hroom : A.depth < recursionLimit)
    (hi : findIn K (.ref C) "__init__" = some (some (.ref fI))) (ha : args = ⟨[.ref e, u], []⟩ ∨ args = ⟨[.ref e], [(fld, u)]⟩)
    (hq : ∀ h' t1 dx tk', (∀ b o, b ≠ e → s.heap.get? b = some o → h'.get? b = some o) → s.heap.objs.size ≤ dx → dx ≠ e → h'.get? e = some (excObj C t1 (some dx) .none) →
      h'.Ns1 dx (fun y => if y = fld then some u else none) → R (.ok (.ret .none)) { s with heap := h', toks := tk' }) :
    codeAny (model prog w) A (.call (.ref fI) args) R s := by
  obtain ⟨fI', cc, cda, oc, od, osl, qual, params, scope, dV, kV, doc, pm, ct, an, msg, p0, p1, p2, p3, p4, p5, p6, p7, p8, p9, kk, cl, cld, csl, ccl, cdd, vs, ccs, file, tf, f1, f2, f3, f4, f5, f6, f7, f8, f9, b1, b2, k1, k2, k3, k4, k5, k6, k7, k8, hev⟩ := T.fn
  rw [hi] at f1
  cases f1
  obtain ⟨ar, har, har2⟩ : ∃ ar, (params.posonlyargs ++ params.args).head? = some ar ∧ ar.arg = "self" := by
    cases z : (params.posonlyargs ++ params.args).head? with
    | none => rw [z] at f9; cases f9
    | some ar => rw [z] at f9; exact ⟨ar, rfl, Option.some.inj f9⟩
  have hbind : BindsTo s (ksFn "__init__" qual params (xBody msg fld p0 p1 p2 p3 p4 p5 p6 p7 p8 p9 kk) scope dV kV doc pm an (.ref cda) ct cc) args [("self", .ref e), (fld, u)] := by
    rcases ha with rfl | rfl
    · exact b1 _ _ _
    · exact b2 _ _ _
  refine ks_codeAny_call_defAt (fd := ksFn "__init__" qual params (xBody msg fld p0 p1 p2 p3 p4 p5 p6 p7 p8 p9 kk) scope dV kV doc pm an (.ref cda) ct cc) (body := xBody msg fld p0 p1 p2 p3 p4 p5 p6 p7 p8 p9 kk)
    (binds := [("self", .ref e), (fld, u)]) hroom (G.k _ _ f3) rfl G.l (codeRec_of G.k f4) rfl hbind k5 ?_ (fun h1 hns hk1 => ?_) k6 k7 k8
  · intro x hx
    rcases List.mem_cons.mp hx with rfl | hx
    · exact k3
    · rcases List.mem_cons.mp hx with rfl | hx
      · exact k4
      · cases hx
  · obtain ⟨pl, hpl⟩ := hev s.heap.objs.size
    have G1 := G.keeps (h' := h1) hk1
    have e1 := hk1 _ _ he
    refine x_body (s := { s with heap := h1, toks := s.toks + 2 }) (e := e) (t := t) (L := s.heap.objs.size) (f := fI) (cc := cc) (cda := cda) (u := u) T G1 e1 heK hns ?_ ?_ (G1.k _ _ f3) rfl har har2 (G1.k _ _ f6) rfl f7 f8 ⟨_, G1.k _ _ f5, rfl⟩ k1 k2 k3 k4 k8 hpl (fun h' t1 dx tk' a1 a2 a3 a4 a5 => ?_)
    · have z : (("self" : Str) == fld) = false := beq_false_of_ne T.fs
      show List.lookup ("self" : Str) [(fld, u), ("self", Value.ref e)] = some (Value.ref e)
      rw [List.lookup, z]
      simp [List.lookup]
    · show List.lookup fld [(fld, u), ("self", Value.ref e)] = some u
      simp [List.lookup]
    · refine hq h' t1 dx tk' (fun b o hb z => a1 b o hb (hk1 _ _ z)) (Nat.le_trans ?_ a2) a3 a4 a5
      obtain ⟨oL, es, ep, z1, _⟩ := hns
      exact Nat.le_of_lt (Heap.lt_size z1)
end
end Rm
namespace Rm
open PySem PySem.W PySem.Calls PyProof.Rows PySem.Spec L2
/-- an exception at a, of the class cls, its own dict at d; fr: not raised yet -/
def xV (a : Addr) (cls : Value) (d : Option Addr) (fr : Bool) : HO := .ext fun h => ∃ (o : Obj) (vs : Array Value), h.get? a = some o ∧ Zc cls d o ∧ o.data = .fields vs ∧ (fr = true → vs[1]? = some .none)
theorem xV_ok {P : Program} {w : World} {H : Hp} {h : Heap} {a : Addr} {cls : Value} {d : Option Addr} {fr : Bool} {o : Obj} {vs : Array Value} (e : h.get? a = some o) (z : Zc cls d o) (dd : o.data = .fields vs) (h1 : fr = true → vs[1]? = some .none) : ObjOk P w H h a (xV a cls d fr) :=
  ⟨⟨o, vs, e, z, dd, h1⟩, ⟨o, e⟩, fun _ _ y k => by
    obtain ⟨o', vs', y1, y2⟩ := y
    exact ⟨o', vs', k _ y1, y2⟩⟩
theorem xV_at {P : Program} {w : World} {H : Hp} {h : Heap} {a : Addr} {cls : Value} {d : Option Addr} {fr : Bool} (hok : HOk P w H h) (e : H a = some (xV a cls d fr)) :
    ∃ (o : Obj) (vs : Array Value), h.get? a = some o ∧ Zc cls d o ∧ o.data = .fields vs ∧ (fr = true → vs[1]? = some .none) := (hok a _ e).1
theorem xd_ok {P : Program} {w : World} {H : Hp} {h : Heap} {dx : Addr} {f : Str} {v : V} {u : Value} (r : RelV v u) (hn : h.Ns1 dx (fun y => if y = f then some u else none)) : ObjOk P w H h dx (.xd [(f, v)]) :=
  ⟨_, hn, fun g => by
    by_cases e : g = f
    · subst e
      simp [List.lookup]
      exact r
    · have e' : (g == f) = false := by simpa using e
      simp only [List.lookup, e', if_neg e]
      trivial⟩

section
variable {X : Cx} {B newId initId : String} {bmB : List Value} {fld : Str} {C : Addr} {pins : List (Addr × Obj)} {σ : L2.St} {H : Hp} {s : Shared}
theorem gnd_of (I : Inv X pins σ H s) : Gnd X.K X.mg s.heap := by
  obtain ⟨mb, h1, h2⟩ := I.mod.blt
  exact ⟨I.kIn, I.mod.glob.keeps I.bk, ⟨mb, h1.keeps I.bk, h2⟩, I.nolimit⟩
theorem x_new {u : Value} {Q : Value → Shared → Prop} {E : Value → Shared → Prop} (T : XCls X.prog X.K X.mg B newId initId bmB fld C) (hr : Room 1 X.A) (I : Inv X pins σ H s)
    (hq : ∀ h' a t dx tk', (∀ b o, s.heap.get? b = some o → h'.get? b = some o) → s.heap.objs.size ≤ a → s.heap.objs.size ≤ dx → dx ≠ a → h'.get? a = some (excObj C t (some dx) .none) →
      h'.Ns1 dx (fun y => if y = fld then some u else none) → Q (.ref a) { s with heap := h', toks := tk' }) :
    wpAny (model X.prog X.w) X.A (call (.ref C) [u]) Q E s := by
  obtain ⟨fI, _, _, _, _, _, _, _, _, _, _, _, _, _, _, _, _, _, _, _, _, _, _, _, _, _, _, _, _, _, _, _, _, _, _, _, f1, f2, f3, _⟩ := T.fn
  obtain ⟨nm, N', qn, bs, bm, hdct, sn, sub, ab, col, dd, k0, k3, k4, k5, k6, hC, hT⟩ := excInit_of I.kIn T.ei
  have G := gnd_of I
  obtain ⟨hh, g, d, t0, os⟩ := s
  have kp : ∀ b o, hh.get? b = some o → ((hh.push (kdv_tup [u])).push (HandSPX.excO C hh.objs.size)).get? b = some o := fun b o e => Heap.get?_push_of_some _ (Heap.get?_push_of_some _ e)
  have hget : ((hh.push (kdv_tup [u])).push (HandSPX.excO C hh.objs.size)).get? (hh.objs.size + 1) = some (HandSPX.excO C hh.objs.size) := by heap_get
  have tf : typeIn X.K (.ref fI) = some (.type "function") := by
    unfold isFn at f2
    exact eq_of_beq f2
  refine wpAny_call (HandSPX.call_own T.fb hT hC (looks_findIn I.kIn f1) (fun self => bind_fn I.kIn self tf) (by rw [sizeLine_eq]; show 1 ≤ 16777216; decide) ?_)
  refine x_call (s := ⟨(hh.push (kdv_tup [u])).push (HandSPX.excO C hh.objs.size), g, d, t0, os⟩) (e := hh.objs.size + 1) (t := hh.objs.size) T (G.keeps kp) hget ?_ ?_ f1 (.inl rfl) (fun h' t1 dx tk' a1 a2 a3 a4 a5 => ?_)
  · cases z : X.K.lookup (hh.objs.size + 1) with
    | none => rfl
    | some o => exact absurd (Heap.lt_size (I.kIn _ _ z)) (by show ¬ hh.objs.size + 1 < hh.objs.size; omega)
  · have := hr.dp
    rw [make_depth]
    omega
  · refine ⟨rfl, ?_⟩
    refine hq h' (hh.objs.size + 1) t1 dx tk' (fun b o z => a1 b o (Nat.ne_of_lt (Nat.lt_succ_of_lt (Heap.lt_size z))) (kp b o z)) (Nat.le_succ _) (Nat.le_trans ?_ a2) a3 a4 a5
    exact Nat.le_of_lt (Nat.lt_of_succ_lt (Heap.lt_size hget))

/-- the heap with such an exception is a state of ours -/
theorem x_laid {h' : Heap} {a t dx : Addr} {tk : Nat} {v : V} {u : Value} (I : Inv X pins σ H s) (k : ∀ b o, s.heap.get? b = some o → h'.get? b = some o) (ha : s.heap.objs.size ≤ a) (hd : s.heap.objs.size ≤ dx) (nd : dx ≠ a)
    (he : h'.get? a = some (excObj C t (some dx) .none)) (hn : h'.Ns1 dx (fun y => if y = fld then some u else none)) (r : RelV v u) :
    Inv X pins σ (upd (upd H dx (.xd [(fld, v)])) a (xV a (.ref C) (some dx) true)) { s with heap := h', toks := tk } := by
  have na := I.hok.fresh ha
  have nx := I.hok.fresh hd
  have lt : ∀ {b : Addr} {o : Obj}, s.heap.get? b = some o → b ≠ a ∧ b ≠ dx := fun {b o} z =>
    ⟨Nat.ne_of_lt (Nat.lt_of_lt_of_le (Heap.lt_size z) ha), Nat.ne_of_lt (Nat.lt_of_lt_of_le (Heap.lt_size z) hd)⟩
  have at' : ∀ {b : Addr} {o : HO}, H b = some o → b ≠ a ∧ b ≠ dx := fun {b o} z => ⟨ne_of_none z na, ne_of_none z nx⟩
  have same : ∀ {b : Addr} {o : HO}, H b = some o → upd (upd H dx (.xd [(fld, v)])) a (xV a (.ref C) (some dx) true) b = some o := fun {b o} z => by
    rw [upd_ne (at' z).1, upd_ne (at' z).2]
    exact z
  refine I.un (t' := tk) { keep := fun b o z n _ _ => k b o z, slot := fun b o z n _ _ => ⟨o.slots, k b o z⟩, free := fun b o z n _ => ?_, there := fun b o z _ => ⟨o, k b o z⟩, tups := fun b xs z => same z, frzs := fun b o u z => same z, tbls := fun b ps z => ⟨#[], by rw [same z]; simp⟩ } (fun b o z => ?_)
  · rw [upd_ne (lt z).1, upd_ne (lt z).2]
    exact n
  · by_cases hb : b = a
    · subst hb
      rw [upd_same] at z
      cases z
      exact xV_ok he ⟨rfl, rfl⟩ rfl fun _ => rfl
    · rw [upd_ne hb] at z
      by_cases hb2 : b = dx
      · subst hb2
        rw [upd_same] at z
        cases z
        exact xd_ok r hn
      · rw [upd_ne hb2] at z
        exact (I.hok b o z).stay (fun c u _ y => k c u y) (fun c y => same y) (fun c xs y => same y)
/-- the same, the exception itself left out (it's about to be raised) -/
theorem x_laidR {h' : Heap} {a dx : Addr} {tk : Nat} {v : V} {u : Value} (I : Inv X pins σ H s) (k : ∀ b o, s.heap.get? b = some o → h'.get? b = some o) (ha : s.heap.objs.size ≤ a) (hd : s.heap.objs.size ≤ dx) (nd : dx ≠ a)
    (hn : h'.Ns1 dx (fun y => if y = fld then some u else none)) (r : RelV v u) :
    ∃ G : Heap, (∀ b o, G.get? b = some o → h'.get? b = some o) ∧ G.get? a = none ∧ Inv X pins σ (upd H dx (.xd [(fld, v)])) { s with heap := G, toks := tk } := by
  obtain ⟨G, g1, g2⟩ := restrict h' fun b => decide (b ≠ a)
  have gk : ∀ b, b ≠ a → G.get? b = h'.get? b := fun b hb => g1 b (decide_eq_true hb)
  have ge : G.get? a = none := g2 a (by simp)
  have nx := I.hok.fresh hd
  have lt : ∀ {b : Addr} {o : Obj}, s.heap.get? b = some o → b ≠ a ∧ b ≠ dx := fun {b o} z =>
    ⟨Nat.ne_of_lt (Nat.lt_of_lt_of_le (Heap.lt_size z) ha), Nat.ne_of_lt (Nat.lt_of_lt_of_le (Heap.lt_size z) hd)⟩
  have k' : ∀ b o, s.heap.get? b = some o → G.get? b = some o := fun b o z => (gk b (lt z).1).trans (k b o z)
  have same : ∀ {b : Addr} {o : HO}, H b = some o → upd H dx (.xd [(fld, v)]) b = some o := fun {b o} z => by
    rw [upd_ne (ne_of_none z nx)]
    exact z
  refine ⟨G, fun b o z => ?_, ge, I.un (t' := tk) { keep := fun b o z n _ _ => k' b o z, slot := fun b o z n _ _ => ⟨o.slots, k' b o z⟩, free := fun b o z n _ => ?_, there := fun b o z _ => ⟨o, k' b o z⟩, tups := fun b xs z => same z, frzs := fun b o u z => same z, tbls := fun b ps z => ⟨#[], by rw [same z]; simp⟩ } (fun b o z => ?_)⟩
  · by_cases hb : b = a
    · rw [hb, ge] at z
      cases z
    · exact (gk b hb).symm.trans z
  · rw [upd_ne (lt z).2]
    exact n
  · by_cases hb2 : b = dx
    · subst hb2
      rw [upd_same] at z
      cases z
      obtain ⟨oD, es, ep, z1, z2⟩ := hn
      exact xd_ok r ⟨oD, es, ep, (gk _ nd).trans z1, z2⟩
    · rw [upd_ne hb2] at z
      exact (I.hok b o z).stay (fun c u _ y => k' c u y) (fun c y => same y) (fun c xs y => same y)

def tNewX (fld : Str) (C : Addr) (te : TE) : TE := fun σ H Q => te σ H fun v H1 => ∀ a d, H1 a = none → H1 d = none → d ≠ a → Q (.ref a) (upd (upd H1 d (.xd [(fld, v)])) a (xV a (.ref C) (some d) true))
def tRzX (fld : Str) (C : Addr) (te : TE) : L2.St → Hp → XK → Prop := fun σ H Q => te σ H fun v H1 => ∀ d, H1 d = none → Q (.ref C) (some d) (upd H1 d (.xd [(fld, v)]))
variable {x : Str} {e : Expr} {te : TE} {p pos : Pos}
/-- C(e) as a value -/
theorem pe_newX (T : XCls X.prog X.K X.mg B newId initId bmB fld C) (hr : Room 1 X.A) (kC : keepIn X.K (.ref C) = true) (hg : Gl X x) (hm : X.mg x = some (.ref C)) (he : PE X e te)
    (hdb : (x == ("__debug__" : Str)) = false := by decide) (hs : starEach [e] X.env = (false, eval e X.env) :: starEach [] X.env := by rfl) : PE X (.Call (.Name x p) [e] [] pos) (tNewX fld C te) := by
  refine ⟨fun pins s σ H Q I h => ?_⟩
  refine wpAny_Call_Name_kw (ld_glob I hg hm ?_ hdb)
  refine callWith_K (h₀ := X.base) I.ok.mod.kin kC (spliced_more (thn (he.run pins s σ H _ I h) fun u s1 ⟨v, H1, I1, r1, q1⟩ => spliced_none ⟨I1.kIn, ?_⟩) hs) hs rfl
  refine x_new T hr I1 fun h' a t dx tk' k ha hd nd hx hn => ?_
  exact ⟨.ref a, _, x_laid I1 k ha hd nd hx hn r1, rfl, q1 a dx (I1.hok.fresh ha) (I1.hok.fresh hd) nd⟩
/-- raise C(e) -/
theorem pmk_newX (T : XCls X.prog X.K X.mg B newId initId bmB fld C) (hr : Room 1 X.A) (kC : keepIn X.K (.ref C) = true) (rC : Raises X (.ref C)) (hg : Gl X x) (hm : X.mg x = some (.ref C)) (he : PE X e te)
    (hdb : (x == ("__debug__" : Str)) = false := by decide) (hs : starEach [e] X.env = (false, eval e X.env) :: starEach [] X.env := by rfl) : PMk X (.Call (.Name x p) [e] [] pos) (tRzX fld C te) := by
  intro pins s σ H Q I h
  refine wpAny_Call_Name_kw (ld_glob I hg hm ?_ hdb)
  refine callWith_K (h₀ := X.base) I.ok.mod.kin kC (spliced_more (thn (he.run pins s σ H _ I h) fun u s1 ⟨v, H1, I1, r1, q1⟩ => spliced_none ⟨I1.kIn, ?_⟩) hs) hs rfl
  refine x_new T hr I1 fun h' a t dx tk' k ha hd nd hx hn => ?_
  obtain ⟨G, g1, g2, J⟩ := x_laidR (tk := tk') I1 k ha hd nd hn r1
  exact ⟨a, _, _, _, _, _, _, rfl, J, g1, g2, hx, ⟨rfl, rfl⟩, rfl, rfl, by rw [upd_ne (Ne.symm nd)]; exact I1.hok.fresh ha, rfl, I1.bare, rC, q1 dx (I1.hok.fresh hd)⟩
end
end Rm
namespace Rm
open PySem PySem.W PySem.Calls PyProof.Rows PySem.Spec L2
/-- what is asked of an exception's class for reading fields and isinstance -/
structure XKit (K : Frag) (C : Addr) : Prop where
  cl : (clsIn K C).isSome = true
  ga : findIn K (.ref C) "__getattribute__" = some (some (.builtin "BaseException.__getattribute__"))
  gg : findIn K (.ref C) "__getattr__" = some none
  ex : subIn K (.ref C) (.type "BaseException") = some true
  hd : hasDictIn K C = true
  ha : findIn K (.ref C) "__class__" = some (some (.builtin "object.__class__"))
  hn : specialIn K (.builtin "object.__class__") "__get__" = some (some (.builtin "getset_descriptor.__get__"))
  ht : takesIn K (.builtin "object.__class__") = some true
  hm : mroIn K C (.type "object") = some true
section
variable {X : Cx} {pins : List (Addr × Obj)} {σ : L2.St} {H : Hp} {s : Shared} {a C d : Addr} {fr : Bool} {fs : List (Str × V)}
theorem x_inst (I : Inv X pins σ H s) (ha : H a = some (xV a (.ref C) (some d) fr)) (hd : H d = some (.xd fs)) :
    ∃ (ox od : Obj), InstAt s.heap a ox C (some od) ∧ ∀ name, ∃ o, lookIn name od = some o ∧ RelO (fs.lookup name) o := by
  obtain ⟨o, vs, e, z, dd, _⟩ := xV_at I.hok ha
  have hx : ObjOk X.prog X.w H s.heap d (.xd fs) := I.hok d _ hd
  obtain ⟨mA, hns, hr⟩ := hx
  obtain ⟨od, ho, hl⟩ := lookIn_ns hns
  exact ⟨o, od, ⟨e, z.1, by unfold notCls; rw [dd], by rw [z.2]; exact ho⟩, fun name => ⟨_, hl name, hr name⟩⟩
/-- e.f where e is an exception -/
def tXat (K : Frag) (f : Str) (te : TE) : TE := fun σ H Q => te σ H fun x H1 => ∃ (a C d : Addr) (fr : Bool) (fs : List (Str × V)) (v : V), x = .ref a ∧ H1 a = some (xV a (.ref C) (some d) fr) ∧ H1 d = some (.xd fs) ∧ XKit K C ∧ findIn K (.ref C) f = some none ∧ fs.lookup f = some v ∧ Q v H1
theorem pe_xat {e : Expr} {te : TE} {pos : Pos} {n : Str} (he : PE X e te) (hb : attributeBase e n X.env (eval e X.env) = eval e X.env := by rfl) : PE X (.Attribute e n pos) (tXat X.K n te) := by
  refine ⟨fun pins s σ H Q I h => ?_⟩
  refine attr_of hb (thn (he.run pins s σ H _ I h) fun u s1 ⟨x, H1, I1, rx, a, C, d, fr, fs, v, ex, ha, hd, T, hno, l, q⟩ => ?_)
  subst ex
  obtain rfl : u = Value.ref a := rx
  obtain ⟨ox, od, J, hl⟩ := x_inst I1 ha hd
  obtain ⟨o, h1, h2⟩ := hl n
  rw [l] at h2
  obtain ⟨u, rfl, ru⟩ := RelO.some_of h2
  exact HandSPX.exc_get I1.kIn J T.ga T.gg T.ex (findObj_own T.hd hno rfl h1) (handed_of ru) ⟨v, H1, I1.tok _, ru, q⟩
/-- isinstance(e, C) where e is an exception -/
def rIsX (K : Frag) : List V → Hp → VK → Prop := fun xs H Q => ∃ (a C d : Addr) (fr : Bool) (fs : List (Str × V)) (c : V) (u : Value) (b : Bool), xs = [.ref a, c] ∧ ClsV c u ∧ H a = some (xV a (.ref C) (some d) fr) ∧ H d = some (.xd fs) ∧ XKit K C ∧ kitOne K (.ref C) u = some b ∧ Q (.bl b) H
theorem call_isX : CallR X (.builtin "isinstance") (rIsX X.K) := fun pins s σ H xs us Q I r ⟨a, C, d, fr, fs, c, u, b, ex, hc, ha, hd, T, hk, q⟩ => by
  subst ex
  obtain ⟨u1, u2, rfl, r1, r2⟩ := vals2 r
  obtain rfl : u1 = Value.ref a := r1
  obtain rfl := ClsV.eq hc r2
  obtain ⟨ox, od, J, hl⟩ := x_inst I ha hd
  exact kia_one (kitx_exc T.cl T.ga T.gg T.ex T.ha T.hn T.ht T.hm) I.kIn J hk (by intro z; cases z) fun tk => ⟨.bl b, _, I.tok _, rfl, q⟩
end
end Rm
namespace Rm
open PySem PySem.W PySem.Calls PyProof.Rows PySem.Spec L2
theorem traced_keeps {h h' base : Heap} {e : Addr} {Z : Obj → Prop} {fl : Value} (x : HandSPX.TracedZ h base e Z fl) (k : ∀ b o, h.get? b = some o → h'.get? b = some o) : HandSPX.TracedZ h' base e Z fl := by
  obtain ⟨oe, vs, T, oT, ts, a1, a2, a3, a4, a5, a6, a7, a8, a9⟩ := x
  exact ⟨oe, vs, T, oT, ts, k _ _ a1, a2, a3, a4, a5, a6, k _ _ a7, a8, a9⟩
theorem flying_keeps {h h' base : Heap} {l : List Env} {e : Addr} {Z : Obj → Prop} (x : HandSPX.FlyingZ base l e Z h) (k : ∀ b o, h.get? b = some o → h'.get? b = some o) : HandSPX.FlyingZ base l e Z h' := by
  obtain ⟨a1, a2, a3, a4⟩ := x
  exact ⟨fun b o z => k b o (a1 b o z), a2, Heap.FunFrames.of_keeps (fun b o z _ => ⟨o, k b o z, rfl⟩) a3, traced_keeps a4 k⟩
section
variable {X : Cx} {pins : List (Addr × Obj)} {σ : L2.St} {H : Hp} {s : Shared}
/-- a pinned record is tracked from now on -/
theorem Inv_retrack {a : Addr} {oe : Obj} {vs : Array Value} {cls : Value} {d : Option Addr} (I : Inv X ((a, oe) :: pins) σ H s) (hz : Zc cls d oe) (hd : oe.data = .fields vs) (h0 : X.s_0.heap.get? a = none) (hp : ∀ p ∈ X.pn ++ pins, p.1 ≠ a) :
    Inv X pins σ (upd H a (xV a cls d false)) s := by
  obtain ⟨ea, na, nL, nF, _⟩ := I.pin (a, oe) (List.mem_append_right _ List.mem_cons_self)
  have na : H a = none := na
  have at' : ∀ {b : Addr} {o : HO}, H b = some o → b ≠ a := fun {b o} z => ne_of_none z na
  have same : ∀ {b : Addr} {o : HO}, H b = some o → upd H a (xV a cls d false) b = some o := fun {b o} z => by
    rw [upd_ne (at' z)]
    exact z
  have n0 : ∀ {b : Addr} {o : Obj}, X.s_0.heap.get? b = some o → b ≠ a := fun {b o} z y => by
    rw [y, h0] at z
    cases z
  refine ⟨I.ok, I.os, I.bare, ⟨fun b o e n hb hx => I.base.keep b o e n hb hx, fun b o e n hb hx => I.base.slot b o e n hb hx, fun b o e n hx => ?_, fun b o e hx => I.base.there b o e hx, fun b xs e => same (I.base.tups b xs e), fun b o u e => same (I.base.frzs b o u e), fun b ps e => ?_⟩,
    I.loc, I.cell, ?_, fun x c e => ?_, fun p hq => ?_, fun b o z => ?_, I.len⟩
  · rw [upd_ne (n0 e)]
    exact I.base.free b o e n hx
  · obtain ⟨m, y⟩ := I.base.tbls b ps e
    exact ⟨m, same y⟩
  · rw [upd_ne (Ne.symm nL)]
    exact I.free
  · have hc : c ≠ a := fun y => by
      obtain ⟨v, o, z1, z2⟩ := I.cell x c e
      have ea' : s.heap.get? a = some oe := ea
      rw [y, ea'] at z1
      cases z1
      rw [hd] at z2
      cases z2
    rw [upd_ne hc]
    exact I.freeC x c e
  · obtain ⟨y1, y2, y3⟩ := I.pin p (by
      rcases List.mem_append.mp hq with q | q
      · exact List.mem_append_left _ q
      · exact List.mem_append_right _ (List.mem_cons_of_mem _ q))
    exact ⟨y1, by rw [upd_ne (hp p hq)]; exact y2, y3⟩
  · by_cases hb : b = a
    · subst hb
      rw [upd_same] at z
      cases z
      exact xV_ok ea hz hd fun q => by cases q
    · rw [upd_ne hb] at z
      exact (I.hok b o z).stay (fun c u _ y => y) (fun c y => same y) (fun c xs y => same y)

/-- what 'except (A, B, C) as e: caught = e' wishes of an exception of the body: e in slot i, caught in slot j -/
def wCaught (K : Frag) (cs : List Value) (i j : Nat) (Wout : WX) (D : Ends) : WX := fun cls d σ H =>
  ∃ b, exmAny K cls cs = some b ∧ (b = true → ∀ a, H a = none → D.nx (((σ.set i (some (.ref a))).set j (some (.ref a))).set i none) (upd H a (xV a cls d false))) ∧ (b = false → Wout cls d σ H)

theorem names_load {x : Str} {c : Value} {np : Pos} {A : Around} {Q : Value → Shared → Prop} {E : Value → Shared → Prop} (I : Inv X pins σ H s) (hA : X.A = A) (hc : Names X x c) (q : Q c s) : wpAny (model X.prog X.w) A (eval (.Name x np) X.env) Q E s := by
  subst hA
  obtain ⟨hg, hdbg, hm | ⟨hm, hv, hnn⟩⟩ := hc
  · exact ld_glob I hg hm q hdbg
  · exact ld_blt I hg hm hv q hnn hdbg

variable {x1 x2 x3 n m : Str} {c1 c2 c3 : Value} {i j : Nat} {body : List Stmt} {np1 np2 np3 tp0 pos pos' p1 p2 p3 : Pos} {tk : Nat} {tb : WX → TS} {Wout : WX}
theorem ps_try_caught (hs : X.stack = X.env :: X.outer) (hf : X.env.frame = some X.env.locals) (hN : X.N.Nodup) (hi : X.N[i]? = some n) (hln : X.env.kindOf n = some .local) (hj : X.N[j]? = some m) (hlm : X.env.kindOf m = some .local)
    (h1 : Names X x1 c1) (h2 : Names X x2 c2) (h3 : Names X x3 c3) (tko : Takes X Wout)
    (hb : ∀ (W : WX) (pn : List (Addr × Obj)) (xe : Value → Shared → Prop), Takes (X.tr pn xe) W → PassesOwn (model X.prog X.w) X.A X.env xe → PSs (X.tr pn xe) body (tb W))
    (hex : X.ex = [] := by rfl) (hd1 : (n == ("__debug__" : Str)) = false := by decide) (hd2 : (n == ("__classdict__" : Str)) = false := by decide) :
    PS X (.Try body [.ExceptHandler (some (.Tuple [.Name x1 np1, .Name x2 np2, .Name x3 np3] tk tp0)) (some n) [.Assign [.Name m p1] (.Name n p2) p3] pos'] [] [] pos)
      (fun D σ H => tb (wCaught X.K [c1, c2, c3] i j Wout D) D σ H) := by
  refine ⟨fun pins s σ H D I h => ?_⟩
  have ok := I.ok
  have hfr : X.A.frames = some (X.env :: X.outer) := by rw [ok.frames, hs]
  refine wpAny_Try_except ?_
  refine wpAny_mono ((hb (wCaught X.K [c1, c2, c3] i j Wout D) (X.pn ++ pins) (fun e s1 => wpAny (model X.prog X.w) X.A (noteFrame e X.env) (fun _ s2 => wpAny (model X.prog X.w) X.A (setFlight e none) (fun _ s3 =>
    wpAny (model X.prog X.w) X.A (handleBy e X.env [.ExceptHandler (some (.Tuple [.Name x1 np1, .Name x2 np2, .Name x3 np3] tk tp0)) (some n) [.Assign [.Name m p1] (.Name n p2) p3] pos']) (SP X pins D) X.xe s3) X.xe s2) X.xe s1) (fun u s' xx => ?_) PassesOwn.looking).run [] s σ H D (I.toTry _) h) (fun f s1 hsp => ?_) (fun e s1 he => he)
  · obtain ⟨a, G, sI, pins', σ', H', cls, d, rfl, J', nb, up, sky, na, os, ag, b, hb1, hyes, hno⟩ := xx
    have J : Inv X pins σ' H' sI := J'.ofTry ok
    have sky' : Sky G (X.env :: X.outer) a (Zc cls d) X.env.locals s'.heap := by rw [← hs]; exact sky
    show wpAny (model X.prog X.w) X.A (noteFrame (.ref a) X.env) _ _ _
    refine Sky.land Zc.steady hfr hf sky' fun g3 fl3 up3 => ?_
    have J3 : Inv X pins σ' H' { s' with heap := g3 } := J.landed nb fl3.1 (up.trans up3) os ag
    obtain ⟨oe3, vs3, he3, hz3, hd3⟩ := fl3.there
    have nfr : a ∉ frs (X.env :: X.outer) := fun hm => by
      obtain ⟨_, o', e', hnf⟩ := fl3.2.2.1.mem hm
      rw [he3] at e'
      cases e'
      exact hnf _ hd3
    have nL : a ≠ X.env.locals := fun z => nfr (List.mem_filterMap.mpr ⟨X.env, List.mem_cons_self, by rw [hf, z]⟩)
    have nF : a ∉ X.fs := fun hm => by
      obtain ⟨e, he, q⟩ := List.mem_filterMap.mp hm
      exact nfr (List.mem_filterMap.mpr ⟨e, List.mem_cons_of_mem _ he, q⟩)
    -- it stood neither at the start of the def nor among what is pinned
    have gnone : G.get? a = none := fl3.2.1
    have stk : ∀ b ∈ frs X.stack, b ≠ a := fun b hb y => nfr (by rw [hs] at hb; rw [← y]; exact hb)
    have hp : ∀ p ∈ X.pn ++ pins, p.1 ≠ a := fun p hp y => by
      obtain ⟨z1, _, z3, z4, _⟩ := J.pin p hp
      have z5 : p.1 ∉ frs X.stack := fun hm => by
        rcases List.mem_cons.mp (J.stkSub _ hm) with q | q
        · exact z3 q
        · exact z4 q
      have := nb _ _ z1 z5
      rw [y, gnone] at this
      cases this
    have h0 : X.s_0.heap.get? a = none := by
      cases z : X.s_0.heap.get? a with
      | none => rfl
      | some o =>
        exfalso
        obtain ⟨o', z'⟩ := J.base.there a o z (by rw [hex]; simp)
        have := nb a o' z' (fun hm => stk a hm rfl)
        rw [gnone] at this
        cases this
    have S3 := J3.suite he3 hd3 na nL nF
    refine wpAny_handleBy_cons (codeAny_handlers_test ?_) (by intro q; cases q)
    have LT : ∀ {h : Heap}, (∀ b o, g3.get? b = some o → h.get? b = some o) → Looks (model X.prog X.w) h (typeOf (.ref a)) cls := fun {h} kk A Q E s k q => wpAny_typeOf_ref (k _ _ (kk _ _ he3)) (by rw [hz3.1]; exact q)
    refine wpAny_Tuple_spliced ?_
    have ld : ∀ {x : Str} {c : Value} {np : Pos} {Q : Value → Shared → Prop} {E : Value → Shared → Prop}, Names X x c → Q c { s' with heap := g3 } → wpAny (model X.prog X.w) (X.A.mark (some (.ref a))) (eval (.Name x np) X.env) Q E { s' with heap := g3 } :=
      fun {x c np Q E} hc q => names_load (X := X.suite a ((a, oe3) :: (X.pn ++ pins))) S3 rfl hc q
    refine spliced_more (ld h1 (spliced_more (ld h2 (spliced_more (ld h3 (spliced_none ⟨by rw [sizeLine_eq]; show 3 ≤ 16777216; decide, ?_⟩)))))) 
    obtain ⟨g4, hg4⟩ : ∃ g4, g4 = g3.push { cls := .type "tuple", data := .seq [c1, c2, c3].toArray } := ⟨_, rfl⟩
    have k4 : ∀ b o, g3.get? b = some o → g4.get? b = some o := fun b o z => by rw [hg4]; exact Heap.get?_push_of_some _ z
    have htp : g4.get? g3.objs.size = some { cls := .type "tuple", data := .seq [c1, c2, c3].toArray } := by rw [hg4]; exact Heap.get?_push_size _ rfl
    have J4 : Inv X pins σ' H' { s' with heap := g4 } := J3.kept (t' := s'.toks) k4
    have fl4 := flying_keeps fl3 k4
    rw [← hg4]
    have LM := exm_tup3 (M := model X.prog X.w) J4.kIn (LT k4) htp hb1
    refine LM.here ?_
    cases b with
    | true =>
      refine codeAny_handlers_suite_as ?_
      refine HandSPX.lands_againZ fl4 fun g5 fl5 up5 => ?_
      have u35 : g3.UpToSlots g5 := fun b o z hd => up5 b o (k4 b o z) hd
      have J5 : Inv X pins σ' H' { s' with heap := g5 } := J.landed nb fl5.1 ((up.trans up3).trans u35) os ag
      obtain ⟨oe5, vs5, he5, hz5, hd5⟩ := fl5.there
      have S5 := J5.suite he5 hd5 na nL nF
      refine store_ok (X := X.suite a ((a, oe5) :: (X.pn ++ pins))) (v := .ref a) S5 hN hi (.inl hln) rfl (fun s6 S6 => ?_) (.inr hln)
      have hlen : i < σ'.length := by
        have := J5.len
        rw [this]
        exact (List.getElem?_eq_some_iff.mp hi).1
      have B : PSs (X.suite a ((a, oe5) :: (X.pn ++ pins))) [.Assign [.Name m p1] (.Name n p2) p3] (tAsg (tVar i) (gName j)) :=
        pss_one (ps_set hN hj (.inl hlm) (pe_var hi (.inl hln) hd1 hd2) rfl (.inr hlm))
      refine wpAny_mono (B.run [] s6 _ H' { nx := fun σ7 H7 => σ7 = ((σ'.set i (some (.ref a))).set j (some (.ref a))) ∧ H7 = H', rt := fun _ _ => False } S6 ⟨.ref a, by simp [hlen], rfl, rfl⟩) (fun f s7 hsp => ?_) (fun _ _ z => False.elim z)
      cases f with
      | next =>
        obtain ⟨σ7, H7, S7, rfl, rfl⟩ := hsp
        have U : Inv X ((a, oe5) :: pins) ((σ'.set i (some (.ref a))).set j (some (.ref a))) H7 s7 :=
          ⟨ok, S7.os, S7.bare, S7.base, S7.loc, S7.cell, S7.free, S7.freeC, fun p hq => S7.pin p (by
            rw [List.append_nil]
            rcases List.mem_append.mp hq with q | q
            · exact List.mem_cons_of_mem _ (List.mem_append_left _ q)
            · rcases List.mem_cons.mp q with q | q
              · exact q ▸ List.mem_cons_self
              · exact List.mem_cons_of_mem _ (List.mem_append_right _ q)), S7.hok, S7.len⟩
        exact gone_ok U hN hi hln fun s8 J8 => ⟨_, _, Inv_retrack J8 hz5 hd5 h0 hp, hyes rfl a na⟩
      | brk =>
        obtain ⟨_, _, _, q⟩ := hsp
        exact False.elim q
      | cont =>
        obtain ⟨_, _, _, q⟩ := hsp
        exact False.elim q
      | ret u =>
        obtain ⟨_, _, _, _, _, q⟩ := hsp
        exact False.elim q
    | false =>
      show wpAny _ X.A (handleBy (.ref a) X.env []) _ _ _
      refine wpAny_handleBy_nil ?_
      obtain ⟨_, _, _, oe, vs, T, oT, ts', he, hz, hd, h1', hr⟩ := id fl4
      unfold PySem.passOn
      refine wpAny_bind (wpAny_field he hd h1' ?_)
      rw [if_neg (show ¬ ((Value.ref T == Value.none) = true) from by simp)]
      have u34 : g3.UpToSlots g4 := Heap.UpToSlots.of_keeps k4
      have fin : wpAny (model X.prog X.w) X.A (setFlight (.ref a) X.env.frame) (fun _ s4 => wpAny (model X.prog X.w) X.A (throw (.ref a) : Sem Flow) (SP X pins D) X.xe s4) X.xe { s' with heap := g4 } := by
        rw [hf]
        refine HandSPX.setFlight_upZ fl4 fun g5 hh5 up5 => wpAny_throw (tko _ _ ?_)
        exact ⟨a, G, sI, pins, σ', H', cls, d, rfl, J, nb, ((up.trans up3).trans u34).trans up5, .inr (.inr (by rw [hs]; exact hh5)), na, os, ag, hno rfl⟩
      first
        | exact wpAny_bind (wpAny_pure (wpAny_bind fin))
        | exact wpAny_bind fin
  · cases f with
    | next =>
      obtain ⟨σ', H', J', q⟩ := hsp
      exact wpAny_execs_nil ⟨σ', H', J'.ofTry ok, q⟩
    | brk =>
      obtain ⟨σ', H', J', q⟩ := hsp
      exact ⟨σ', H', J'.ofTry ok, q⟩
    | cont =>
      obtain ⟨σ', H', J', q⟩ := hsp
      exact ⟨σ', H', J'.ofTry ok, q⟩
    | ret u =>
      obtain ⟨v, σ', H', J', r, q⟩ := hsp
      exact ⟨v, σ', H', J'.ofTry ok, r, q⟩
end
end Rm
/-! Defs that may raise and may show data: what is around a call shows nothing yet (guards). -/
namespace Rm
open PySem PySem.W PySem.Calls PyProof.Rows PySem.Spec L2
/-- a def's body keeps spB, whatever way its parameters were bound -/
def FnB (P : Program) (w : World) (K : Frag) (mg : Str → Option Value) (base : Heap) (k : Nat) (f : Addr) (fd : FuncData) (ps : List Str) (spB : Sp) : Prop :=
  ∀ (A : Around) (outer : List Env) (s : Shared) (H : Hp) (args : Args) (Q : VK) (E : XK) (G : List V → Hp → Prop), Room k A → A.guards = some [] → Env0 P w K mg base A outer s H →
    StX.Bnd (L2.CX P w) P w K mg base fd args ps A outer s H E G → (∀ vs H2, G vs H2 → spB vs H2 Q E) → codeAny (model P w) A (.call (.ref f) args) (CR (L2.CX P w) outer P w H s Q E) s
/-- f called with positional arguments and then the keywords ks -/
def CallG (P : Program) (w : World) (K : Frag) (mg : Str → Option Value) (base : Heap) (k : Nat) (f : Addr) (ks : List Str) (sp : Sp) : Prop :=
  ∀ (A : Around) (outer : List Env) (s : Shared) (H : Hp) (us ws : List Value) (vs zs : List V) (Q : VK) (E : XK), Room k A → A.guards = some [] → Env0 P w K mg base A outer s H → Vals vs us → Vals zs ws →
    ws.length = ks.length → sp (vs ++ zs) H Q E → codeAny (model P w) A (.call (.ref f) ⟨us, ks.zip ws⟩) (CR (L2.CX P w) outer P w H s Q E) s
section
variable {P : Program} {w : World} {K : Frag} {mg : Str → Option Value} {base : Heap} {k n : Nat} {f : Addr} {fd : FuncData} {ps ks : List Str} {spB sp : Sp}
theorem FnB.mono {j : Nat} (F : FnB P w K mg base j f fd ps spB) (h : j ≤ k) : FnB P w K mg base k f fd ps spB := fun A o s H a Q E G r g e b q => F A o s H a Q E G (r.mono h) g e b q
theorem CallG.mono {j : Nat} (F : CallG P w K mg base j f ks sp) (h : j ≤ k) : CallG P w K mg base k f ks sp := fun A o s H us ws vs zs Q E r g e a b c d => F A o s H us ws vs zs Q E (r.mono h) g e a b c d
/-- bound without anything made: parameters in the order ps -/
theorem FnB.call (F : FnB P w K mg base k f fd ps spB) (gV : List V → List V) (g : List Value → List Value)
    (hg : ∀ (vs : List V) (us : List Value), Vals vs us → Vals (gV vs) (g us)) (hl : ∀ vs H Q E, spB vs H Q E → vs.length = ps.length)
    (hb : ∀ (s : Shared) (us ws : List Value), K.In s.heap → ws.length = ks.length → (g (us ++ ws)).length = ps.length → BindsTo s fd ⟨us, ks.zip ws⟩ (ps.zip (g (us ++ ws)))) :
    CallG P w K mg base k f ks (fun vs H Q E => spB (gV vs) H Q E) := fun A outer s H us ws vs zs Q E hr hgd e0 r1 r2 hw hsp => by
  have r := hg _ _ (r1.append r2)
  have len := hl _ _ _ _ hsp
  refine F A outer s H _ Q E (fun vs' H2 => vs' = gV (vs ++ zs) ∧ H2 = H) hr hgd e0 (fun A' Ex Q' h => ?_) fun vs' H2 z => by
    obtain ⟨rfl, rfl⟩ := z
    exact hsp
  refine hb s us ws (e0.mod.kin.keeps fun b o e => (e0.bs b o e).1) hw (by rw [← r.length]; exact len) _ _ _ _ ?_
  exact h s H _ _ e0 Un.refl rfl (fun _ _ z => z) r len ⟨rfl, rfl⟩
/-- plain positional -/
theorem FnB.pos (F : FnB P w K mg base k f fd ps spB) (hl : ∀ vs H Q E, spB vs H Q E → vs.length = ps.length) (hb : Binds K fd ps []) : CallG P w K mg base k f [] spB :=
  F.call (ks := []) (fun vs => vs) (fun us => us) (fun _ _ r => r) hl (fun s us ws hk hw hl => by
    cases ws with
    | nil =>
      have := hb s us hk (by simpa using hl)
      simpa using this
    | cons _ _ => cases hw)
theorem FnB.posD (F : FnB P w K mg base k f fd ps spB) (hl : ∀ vs H Q E, spB vs H Q E → vs.length = ps.length) {ds : List Value} {dvs : List V} (hd : Vals dvs ds) (hb : Binds K fd ps ds) : CallG P w K mg base k f [] (fun vs H Q E => spB (vs ++ dvs) H Q E) :=
  F.call (ks := []) (fun vs => vs ++ dvs) (fun us => us ++ ds) (fun _ _ r => r.append hd) hl (fun s us ws hk hw hl => by
    cases ws with
    | nil =>
      have := hb s us hk (by simpa using hl)
      simpa using this
    | cons _ _ => cases hw)
/-- def f(*xs) -/
theorem FnB.star {pv : Str} (F : FnB P w K mg base k f fd [pv] spB) (hb : ∀ rest : List Value, bindArgs fd ⟨rest, []⟩ = (newTuple rest >>= fun t => pure [(pv, t)])) :
    CallG P w K mg base k f [] (fun vs H Q E => vs.length ≤ sizeLine ∧ ∀ p, H p = none → spB [.ref p] (upd H p (.tup vs)) Q E) := fun A outer s H us ws vs zs Q E hr hgd e0 r1 r2 hw hsp => by
  cases ws with
  | cons _ _ => cases hw
  | nil =>
    cases r2
    rw [List.append_nil] at hsp
    obtain ⟨hz, hsp⟩ := hsp
    have hn : H s.heap.objs.size = none := e0.hok.fresh (Nat.le_refl _)
    have hl : us.length ≤ sizeLine := by rw [← r1.length]; exact hz
    refine F A outer s H _ Q E (fun vs' H2 => ∃ p, H p = none ∧ vs' = [.ref p] ∧ H2 = upd H p (.tup vs)) hr hgd e0 (fun A' Ex Q' h => ?_) fun vs' H2 z => by
      obtain ⟨p, hp, rfl, rfl⟩ := z
      exact hsp p hp
    show wpAny _ _ (bindArgs fd ⟨us, []⟩) _ _ _
    rw [hb]
    have new : ObjOk P w (upd H s.heap.objs.size (.tup vs)) (s.heap.push ({ cls := .type "tuple", data := .seq us.toArray } : Obj)) s.heap.objs.size (.tup vs) := ⟨hz, us, r1, ⟨_, Heap.get?_push_size _ rfl, rfl, _, rfl⟩⟩
    refine wpAny_bind (wpAny_newTuple (wpAny_pure ?_) hl)
    exact h _ _ [.ref s.heap.objs.size] [.ref s.heap.objs.size] (StX.env0_laid e0 new) (StX.un_laid hn) rfl (fun e s' z => StX.cxUp outer s H { s with heap := s.heap.push ({ cls := .type "tuple", data := .seq us.toArray } : Obj) } (upd H s.heap.objs.size (.tup vs)) E e s' (StX.un_laid hn) (fun b o q => Heap.get?_push_of_some _ q) rfl z) (.cons rfl .nil) rfl ⟨_, hn, rfl, rfl⟩
/-- from a body to the def -/
theorem fnB_of {name qual : Str} {params : Arguments} {body : List Stmt} {scope : Scope} {dV kV doc pm cdv ct oc : Value} {an od : Option Addr} {osl : Array (Option Value)} {N : List Str}
    (lk : K.lookup f = some ⟨oc, od, .func (fnOf name qual params body scope dV kV doc pm an cdv ct), osl⟩) (hcd : codeIn K cdv qual = true) (S : FnScope N ps scope)
    (hbody : ∀ (A : Around) (outer : List Env) (s : Shared) (H : Hp) (vs : List V) (Q : VK) (E : XK), Room k (A.deeper (envOfC qual scope s.heap.objs.size f cdv)) → A.guards = some [] → spB vs H Q E →
      ∃ t, PSs (cxOf (L2.CX P w) P w K mg base N qual scope f cdv A outer s H E) body t ∧ t { nx := fun _ H' => Q .non H', rt := Q } (start N vs) H) :
    FnB P w K mg base (k + 1) f (fnOf name qual params body scope dV kV doc pm an cdv ct) ps spB := fun A outer s H args Q E G hr hg e0 hb hsp =>
  StX.run_bnd lk hcd S hr e0 hb fun s2 H2 vs g hr' => hbody A outer s2 H2 vs Q E hr' hg (hsp vs H2 g)
/-- the same, of a def of the text -/
theorem Fun_okB {x qual : Str} {st : Stmt} {N : List Str} (F : Fun K x qual st f fd) (S : FnScope N ps (defScope st))
    (hbody : ∀ (cdv : Value) (A : Around) (outer : List Env) (s : Shared) (H : Hp) (vs : List V) (Q : VK) (E : XK), Room k (A.deeper (envOfC qual (defScope st) s.heap.objs.size f cdv)) → A.guards = some [] → spB vs H Q E →
      ∃ t, PSs (cxOf (L2.CX P w) P w K mg base N qual (defScope st) f cdv A outer s H E) (defBody st) t ∧ t { nx := fun _ H' => Q .non H', rt := Q } (start N vs) H) : FnB P w K mg base (k + 1) f fd ps spB := by
  obtain ⟨oc, od, kV, doc, pm, an, cdv, ct, osl, rfl, lk, hcd⟩ := F.ex
  exact fnB_of lk hcd S fun A outer s H vs Q E hr hg hsp => hbody cdv A outer s H vs Q E hr hg hsp
end
section
variable {X : Cx} {k : Nat} {f : Addr} {ks : List Str} {sp : Sp} {W : WX} {x : Str} {p pos : Pos} {e : Expr} {es : List Expr} {kws : List Keyword} {t tk : TA}
theorem run_callG {pins : List (Addr × Obj)} {σ : L2.St} {H : Hp} {s : Shared} {Q : VK} {us ws : List Value} {vs zs : List V} (F : CallG X.prog X.w X.K X.mg X.base k f ks sp) (hr : Room k X.A) (hg : X.A.guards = some []) (tko : Takes X W) (I : Inv X pins σ H s)
    (r : Vals vs us) (rz : Vals zs ws) (hl : ws.length = ks.length) (h : sp (vs ++ zs) H Q (WE W σ)) : wpAny (model X.prog X.w) X.A (call (.ref f) us (ks.zip ws)) (EP X pins σ Q) X.xe s := by
  refine wpAny_call (codeAny_mono (F X.A X.stack s H us ws vs zs Q (WE W σ) hr hg I.env0 r rz hl h) fun r s' hq => ?_)
  cases r with
  | error e => exact passAt tko σ pins H s e s' I hq
  | ok fl =>
    cases fl with
    | ret u => exact I.after hq
    | next => exact False.elim hq
    | brk => exact False.elim hq
    | cont => exact False.elim hq
def tCallG (sp : Sp) (W : WX) (t : TA) : TE := fun σ H Q => t σ H fun vs H1 => sp vs H1 Q (WE W σ)
def tCallGK (sp : Sp) (W : WX) (t tk : TA) : TE := fun σ H Q => t σ H fun vs H1 => tk σ H1 fun zs H2 => sp (vs ++ zs) H2 Q (WE W σ)
/-- f(e, ..) -/
theorem pe_callG (F : CallG X.prog X.w X.K X.mg X.base k f [] sp) (hr : Room k X.A) (hgd : X.A.guards = some []) (tko : Takes X W) (hg : Gl X x) (hm : X.mg x = some (.ref f)) (hk : keepIn X.K (.ref f) = true) (ha : PA X (e :: es) t)
    (hdb : (x == ("__debug__" : Str)) = false := by decide) (he : starEach (e :: es) X.env = (false, eval e X.env) :: starEach es X.env := by rfl) (hpl : (backTo pos (starEach es X.env)).any (·.1) = false := by rfl) :
    PE X (.Call (.Name x p) (e :: es) [] pos) (tCallG sp W t) := by
  refine ⟨fun pins s σ H Q I h => wpAny_Call_Name_kw (ld_glob I hg hm ?_ hdb)⟩
  refine callWith_K (h₀ := X.base) I.ok.mod.kin hk (thn (ha.run pos pins s σ H _ I h) fun us s1 ⟨vs, H1, I1, r, q⟩ => ⟨I1.kIn, ?_⟩) he hpl
  exact run_callG (ws := []) (zs := []) F hr hgd tko I1 r .nil rfl (by rw [List.append_nil]; exact q)
/-- f() -/
theorem pe_callG0 (F : CallG X.prog X.w X.K X.mg X.base k f [] sp) (hr : Room k X.A) (hgd : X.A.guards = some []) (tko : Takes X W) (hg : Gl X x) (hm : X.mg x = some (.ref f)) (hk : keepIn X.K (.ref f) = true)
    (hdb : (x == ("__debug__" : Str)) = false := by decide) : PE X (.Call (.Name x p) [] [] pos) (tCallG sp W tNil) := by
  refine ⟨fun pins s σ H Q I h => wpAny_Call_Name_kw (ld_glob I hg hm ?_ hdb)⟩
  refine callWith_K0 I.kIn hk ?_
  exact run_callG (ws := []) (zs := []) F hr hgd tko I .nil .nil rfl h
/-- f(e, .., k=v, ..) -/
theorem pe_callGK (F : CallG X.prog X.w X.K X.mg X.base k f ks sp) (hr : Room k X.A) (hgd : X.A.guards = some []) (tko : Takes X W) (hg : Gl X x) (hm : X.mg x = some (.ref f)) (hk : keepIn X.K (.ref f) = true) (ha : PA X (e :: es) t) (hkw : PK X kws tk)
    (hall : (backToKw pos (keywordEach kws X.env)).all (·.1.isSome) = true := by rfl) (hks : (backToKw pos (keywordEach kws X.env)).filterMap (·.1) = ks := by rfl)
    (hdb : (x == ("__debug__" : Str)) = false := by decide) (he : starEach (e :: es) X.env = (false, eval e X.env) :: starEach es X.env := by rfl)
    (hpl : ((backTo pos (starEach (e :: es) X.env)).any (·.1) || (backToKw pos (keywordEach kws X.env)).any (·.1.isNone)) = false := by rfl) :
    PE X (.Call (.Name x p) (e :: es) kws pos) (fun σ H Q => t σ H fun vs H1 => tk σ H1 fun zs H2 => zs.length = ks.length ∧ sp (vs ++ zs) H2 Q (WE W σ)) := by
  refine ⟨fun pins s σ H Q I h => wpAny_Call_Name_kw (ld_glob I hg hm ?_ hdb)⟩
  refine callWith_KW (h₀ := X.base) I.ok.mod.kin hk hall (thn (ha.run pos pins s σ H _ I h) fun us s1 ⟨vs, H1, I1, r, q⟩ => ?_) hpl he
  refine thn (hkw.run pos pins s1 σ H1 _ I1 q) fun ws s2 ⟨zs, H2, I2, rz, hl, q2⟩ => ⟨I2.kIn, ?_⟩
  rw [hks]
  exact run_callG F hr hgd tko I2 r rz (by rw [← rz.length]; exact hl) q2
/-- f(k=v, ..) -/
theorem pe_callGK0 (F : CallG X.prog X.w X.K X.mg X.base k f ks sp) (hr : Room k X.A) (hgd : X.A.guards = some []) (tko : Takes X W) (hg : Gl X x) (hm : X.mg x = some (.ref f)) (hk : keepIn X.K (.ref f) = true) (hkw : PK X kws tk)
    (hall : (backToKw pos (keywordEach kws X.env)).all (·.1.isSome) = true := by rfl) (hks : (backToKw pos (keywordEach kws X.env)).filterMap (·.1) = ks := by rfl)
    (hdb : (x == ("__debug__" : Str)) = false := by decide)
    (hpl : ((backToKw pos (keywordEach kws X.env)).any (·.1.isNone)) = false := by rfl) :
    PE X (.Call (.Name x p) [] kws pos) (fun σ H Q => tk σ H fun zs H2 => zs.length = ks.length ∧ sp zs H2 Q (WE W σ)) := by
  refine ⟨fun pins s σ H Q I h => wpAny_Call_Name_kw (ld_glob I hg hm ?_ hdb)⟩
  show wpAny _ _ (callWith pos (.ref f) [] [] (backToKw pos (keywordEach kws X.env))) _ _ _
  refine callWith_of (P := Frag.In X.K) (by show (false || _) = false; rw [hpl]; rfl) (keeps_K hk) (evalArgs_kw_nil hall ?_)
  refine thn (hkw.run pos pins s σ H _ I h) fun ws s2 ⟨zs, H2, I2, rz, hl, q2⟩ => ⟨I2.kIn, ?_⟩
  rw [hks]
  exact run_callG (us := []) (vs := []) F hr hgd tko I2 .nil rz (by rw [← rz.length]; exact hl) q2
end
end Rm
namespace Rm
open PySem PySem.W PySem.Calls PyProof.Rows PySem.Spec L2
/-- the law's own call: from its promise to what the statement wants -/
theorem lawG {P : Program} {w : World} {K : Frag} {mg mb : Str → Option Value} {k : Nat} {fa a : Addr} {sp : Sp} {s₁ : Shared} {vs : List Value} {ns : List Int}
    (KX : K.In s₁.heap) (hns : s₁.heap.Ns mainGlobals mg) (hb : s₁.heap.Ns builtinsNs mb) (hbb : ∀ x : Str, x ≠ "__name__" → mb x = bootBuiltins x) (hlim : s₁.heap.NoLimit) (hg : s₁.gens = #[])
    (ha : s₁.heap.get? a = some { cls := .type "list", data := .seq vs.toArray }) (hi : IntsAre vs ns) (hl : ns.length ≤ sizeLine) (hr : Room k callerA)
    (F : ∀ base : Heap, K.In base → base.Ns mainGlobals mg → CallG P w K mg base k fa [] sp)
    (hsp : ∀ H : Hp, Only H → SqL K H a (ns.map V.int) → sp [.ref a] H (fun v _ => v = .bl true) fun _ _ _ => False) :
    codeAny (model P w) callerA (.call (.ref fa) ⟨[.ref a], []⟩) (fun r s' => r = .ok (.ret (.bool true)) ∧ OldK s₁.heap s'.heap ∧ s'.os = s₁.os ∧ AllBare s'.gens) s₁ := by
  have rv := vals_ints hi
  obtain ⟨H, hO, hS, hok, hA⟩ : ∃ H : Hp, Only H ∧ SqL K H a (ns.map V.int) ∧ HOk P w H s₁.heap ∧ ∀ b u, H b = some u → b = a ∧ K.lookup a = none := by
    cases hk : K.lookup a with
    | some o =>
      have e := KX a o hk
      rw [ha] at e
      cases e
      exact ⟨fun _ => none, fun _ => .inl rfl, .inr ⟨_, vs.toArray, _, hk, rfl, rfl, rfl, by rw [List.size_toArray, hi.length]; exact hl, by simpa using rv⟩, (fun b u z => absurd (show (none : Option HO) = some u from z) (by simp)), (fun b u z => absurd (show (none : Option HO) = some u from z) (by simp))⟩
    | none =>
      refine ⟨upd (fun _ => none) a (.frz { cls := .type "list", data := .seq vs.toArray } (.lst (ns.map V.int))), fun b => ?_, .inl (.inr ⟨_, upd_same⟩), fun b u z => ?_, fun b u z => ?_⟩
      · by_cases hb : b = a
        · exact .inr ⟨_, _, by rw [hb]; exact upd_same⟩
        · exact .inl (upd_ne hb)
      · by_cases hb : b = a
        · subst hb
          rw [upd_same] at z
          cases z
          exact ⟨ha, by rw [List.length_map]; exact hl, vs, _, rv, ha⟩
        · rw [upd_ne hb] at z
          cases z
      · by_cases hb : b = a
        · exact ⟨hb, rfl⟩
        · rw [upd_ne hb] at z
          cases z
  have nonA : ∀ {b : Addr} {o : Obj}, s₁.heap.get? b = some o → (∀ (xs : Array Value) (n : Nat), o.data ≠ .seq xs n) → H b = none := fun {b o} e d => by
    cases q : H b with
    | none => rfl
    | some u =>
      rw [(hA b u q).1, ha] at e
      cases e
      exact absurd rfl (d _ _)
  have ns' : ∀ {b : Addr} {m : Str → Option Value}, s₁.heap.Ns b m → (hidT s₁.heap H).Ns b m := fun {b m} ⟨o, es, ep, e, d, r⟩ =>
    ⟨o, es, ep, hidT_get e (nonA e fun xs n z => by rw [d] at z; cases z), d, r⟩
  have hKb : K.In (hidT s₁.heap H) := fun b o e => hidT_get (KX b o e) (by
    cases q : H b with
    | none => rfl
    | some u =>
      obtain ⟨rfl, z⟩ := hA b u q
      rw [z] at e
      cases e)
  obtain ⟨mc, l1, l2⟩ := hlim
  have e0 : Env0 P w K mg (hidT s₁.heap H) callerA [] s₁ H :=
    ⟨rfl, ⟨hKb, ns' hns, ⟨mb, ns' hb, hbb⟩, mc, ns' l1, l2⟩, fun b o e => of_hidT e, Nat.le_of_eq (hidT_size _ _), trivial, (fun b z => absurd (show b ∈ ([] : List Addr) from z) (by simp)), hok, AllBare.of_eq hg⟩
  refine codeAny_mono (F _ hKb (ns' hns) callerA [] s₁ H [.ref a] [] [.ref a] [] _ _ hr rfl e0 (.cons rfl .nil) .nil rfl (hsp H hO hS)) fun r s' h => ?_
  cases r with
  | error e =>
    obtain ⟨_, _, _, _, _, _, _, _, _, _, _, _, z⟩ := h
    exact z.elim
  | ok fl =>
    cases fl with
    | next => exact h.elim
    | brk => exact h.elim
    | cont => exact h.elim
    | ret u =>
      obtain ⟨v, H', os, bare, un, hok', r', q⟩ := h
      obtain rfl : v = .bl true := q
      obtain rfl : u = Value.bool true := r'
      refine ⟨rfl, OldK.of_keep fun b o e => ?_, os, bare⟩
      cases q : H b with
      | none => exact un.keep b o e q (by intro z; cases z) (by simp)
      | some u =>
        rcases hO b with z | ⟨ob, xs, z⟩
        · rw [q] at z
          cases z
        · obtain ⟨e1, _⟩ := hok b _ z
          obtain ⟨e2, _⟩ := hok' b _ (un.frzs b ob _ z)
          rw [e] at e1
          cases e1
          exact e2
theorem walk_ofG {l : OpenLaw} {n k : Nat} {q : Program} {loose : List Str} {XP : (Str → Option Value) → Heap → Prop} {YP : World → Heap → Prop} {d : DefRec} {K : Params → Frag} {sp : World → Sp}
    (hn : l.most = some n) (hn2 : n ≤ sizeLine) (hdf : d.params.defaults = []) (hr : Room k callerA)
    (hY : ∀ (w : World) (h : Heap), YP w h → (K w.params).In h)
    (F : ∀ (w : World) (mg : Str → Option Value) (fa : Addr) (h : Heap), (K w.params).In h → h.Ns mainGlobals mg → mg d.name = some (.ref fa) →
      ∀ base : Heap, (K w.params).In base → base.Ns mainGlobals mg → CallG l.prog w (K w.params) mg base k fa [] (sp w))
    (hsp : ∀ (w : World) (H : Hp) (a : Addr) (ns : List Int), ns.length ≤ n → (∀ z ∈ ns, Builtin.Int.intBits z ≤ 1048576) → Only H → SqL (K w.params) H a (ns.map V.int) → sp w [.ref a] H (fun v _ => v = .bl true) fun _ _ _ => False) :
    WalkO q loose XP YP l.row.toRowW d [] (fun f vs => PySem.call f vs) :=
  Att.attach_callB hn hdf fun w _ s₁ mg mb fa o pm cd doc a vs ns G Y ho hd hcd hmg hobj hints hlen hbits hg =>
    lawG (hY w _ Y) G.T.g G.T.b G.T.builtins G.T.nolimit hg hobj hints (Nat.le_trans hlen hn2) hr (F w mg fa _ (hY w _ Y) G.T.g hmg) fun H hO hS => hsp w H a ns hlen hbits hO hS

/-! ### values by rule -/
section
variable {X : Cx}
/-- // by a divisor of either sign -/
def CDivS (_ j : Int) : Prop := j ≠ 0 ∧ j.natAbs.log2 < 9000
theorem op_fdivS : OpR X (binaryOp .FloorDiv) (rI CDivS fun i j => .int (i.fdiv j)) := opI fun i j _ _ _ _ _ hc q =>
  floordiv_int hc.1 q (.inl (PyProof.noPylong_of_log2 hc.2))
/-- repr of data -/
def rReprD (K : Frag) : List V → Hp → VK → Prop := fun xs H Q => ∃ x d, xs = [x] ∧ Dp K H x d ∧ d.showable = true ∧ d.hasDict = false ∧ d.depth ≤ 100 ∧ d.shown.length ≤ sizeLine ∧ Q (.str d.shown) H
theorem call_reprD {k : Nat} (hr : Room k X.A) (hg : X.A.guards = some []) : CallR X (.builtin "repr") (rReprD X.K) := fun pins s σ H xs us Q I r ⟨x, d, ex, hd, hs, hnd, hdp, hsz, q⟩ => by
  subst ex
  obtain ⟨u, rfl, ru⟩ := vals1 r
  obtain ⟨as, rd⟩ := Dp.reads I d x u hd ru
  have hu : X.A.units + (d.depth + 1) < cLine := by have := hr.un; omega
  cases hd with
  | non =>
    cases ru
    exact PySem.P.repr_of_none ⟨.str "None", H, I.tok _, ⟨_, rfl⟩, q⟩
  | bl b =>
    cases ru
    exact PySem.P.repr_of_bool ⟨.str (if b then "True" else "False"), H, I.tok _, ⟨_, rfl⟩, q⟩
  | int i =>
    obtain ⟨t, rfl⟩ := ru
    exact PySem.P.repr_of_int (by simpa [PyData.showable] using hs) ⟨.str (toString i), H, I.tok _, ⟨_, rfl⟩, q⟩
  | str y =>
    obtain ⟨t, rfl⟩ := ru
    exact PySem.P.repr_of_str ⟨.str (reprText y), H, I.tok _, ⟨_, rfl⟩, q⟩ hsz
  | lst _ _ =>
    cases ru
    exact repr_of_reads' rd hs (PyData.noDict_hsm hnd) hg hu (fun _ _ e => e) (fun h' u tk hk => ⟨.str _, H, I.kept hk, ⟨_, rfl⟩, q⟩) hsz
  | tup _ _ =>
    cases ru
    exact repr_of_reads' rd hs (PyData.noDict_hsm hnd) hg hu (fun _ _ e => e) (fun h' u tk hk => ⟨.str _, H, I.kept hk, ⟨_, rfl⟩, q⟩) hsz
end
end Rm
/-! Plain mathematics of numbers in lowest terms. -/
namespace Rm
/-- above / below in lowest terms, the sign above -/
def dv (a b : Int) : Int := if b < 0 then -(Int.gcd a b : Int) else (Int.gcd a b : Int)
def red (a b : Int) : Int × Int := (a.fdiv (dv a b), b.fdiv (dv a b))
def IsNum (p q : Int) : Prop := 1 ≤ q ∧ Int.gcd p q = 1
instance (p q : Int) : Decidable (IsNum p q) := by unfold IsNum; infer_instance
theorem gcd_pos' {a b : Int} (hb : b ≠ 0) : 0 < Int.gcd a b := Int.gcd_pos_of_ne_zero_right a hb
theorem dv_ne {a b : Int} (hb : b ≠ 0) : dv a b ≠ 0 := by
  have := gcd_pos' (a := a) hb
  unfold dv
  split <;> omega
theorem dv_abs (a b : Int) : (dv a b).natAbs = Int.gcd a b := by
  unfold dv
  split <;> omega
theorem dv_l (a b : Int) : dv a b ∣ a := by
  unfold dv
  split
  · exact Int.neg_dvd.mpr (Int.gcd_dvd_left ..)
  · exact Int.gcd_dvd_left ..
theorem dv_r (a b : Int) : dv a b ∣ b := by
  unfold dv
  split
  · exact Int.neg_dvd.mpr (Int.gcd_dvd_right ..)
  · exact Int.gcd_dvd_right ..
theorem fdiv_of_dvd {a d : Int} (h : d ∣ a) (hd : d ≠ 0) : a.fdiv d * d = a := by
  obtain ⟨k, rfl⟩ := h
  rw [Int.mul_fdiv_cancel_left _ hd, Int.mul_comm]
theorem red_l {a b : Int} (hb : b ≠ 0) : (red a b).1 * dv a b = a := fdiv_of_dvd (dv_l a b) (dv_ne hb)
theorem red_r {a b : Int} (hb : b ≠ 0) : (red a b).2 * dv a b = b := fdiv_of_dvd (dv_r a b) (dv_ne hb)
theorem red_pos {a b : Int} (hb : b ≠ 0) : 1 ≤ (red a b).2 := by
  have h1 := red_r (a := a) hb
  have h2 := gcd_pos' (a := a) hb
  unfold dv at h1
  split at h1
  · rename_i h
    have h3 : (red a b).2 * (Int.gcd a b : Int) = -b := by rw [Int.mul_neg] at h1; omega
    refine Int.not_lt.mp fun h4 => ?_
    have : (red a b).2 * (Int.gcd a b : Int) ≤ 0 := Int.mul_nonpos_of_nonpos_of_nonneg (by omega) (by omega)
    omega
  · rename_i h
    refine Int.not_lt.mp fun h4 => ?_
    have : (red a b).2 * (Int.gcd a b : Int) ≤ 0 := Int.mul_nonpos_of_nonpos_of_nonneg (by omega) (by omega)
    omega
theorem red_cross {a b : Int} (hb : b ≠ 0) : (red a b).1 * b = a * (red a b).2 := by
  have h1 := red_l (a := a) hb
  have h2 := red_r (a := a) hb
  generalize (red a b).1 = p at *
  generalize (red a b).2 = q at *
  generalize dv a b = d at *
  subst h1
  rw [← h2]
  rw [Int.mul_assoc, Int.mul_comm d q]
theorem red_gcd {a b : Int} (hb : b ≠ 0) : Int.gcd (red a b).1 (red a b).2 = 1 := by
  have h1 := red_l (a := a) hb
  have h2 := red_r (a := a) hb
  have h3 := gcd_pos' (a := a) hb
  have h4 : Int.gcd ((red a b).1 * dv a b) ((red a b).2 * dv a b) = Int.gcd (red a b).1 (red a b).2 * (dv a b).natAbs := Int.gcd_mul_right ..
  rw [h1, h2, dv_abs] at h4
  have h5 : Int.gcd (red a b).1 (red a b).2 * Int.gcd a b = 1 * Int.gcd a b := by omega
  exact Nat.eq_of_mul_eq_mul_right h3 h5
theorem red_num {a b : Int} (hb : b ≠ 0) : IsNum (red a b).1 (red a b).2 := ⟨red_pos hb, red_gcd hb⟩
theorem red_le1 {a b : Int} (hb : b ≠ 0) : (red a b).1.natAbs ≤ a.natAbs := by
  have h1 := congrArg Int.natAbs (red_l (a := a) hb)
  rw [Int.natAbs_mul, dv_abs] at h1
  have h3 := gcd_pos' (a := a) hb
  rw [← h1]
  exact Nat.le_mul_of_pos_right _ h3
theorem red_le2 {a b : Int} (hb : b ≠ 0) : (red a b).2.natAbs ≤ b.natAbs := by
  have h1 := congrArg Int.natAbs (red_r (a := a) hb)
  rw [Int.natAbs_mul, dv_abs] at h1
  have h3 := gcd_pos' (a := a) hb
  rw [← h1]
  exact Nat.le_mul_of_pos_right _ h3
/-- two numbers in lowest terms with the same value are the same -/
theorem num_ext {p q r s : Int} (h1 : IsNum p q) (h2 : IsNum r s) (h : p * s = r * q) : p = r ∧ q = s := by
  have e1 : q.natAbs ∣ s.natAbs := by
    have : q.natAbs ∣ p.natAbs * s.natAbs := by
      rw [← Int.natAbs_mul, h, Int.natAbs_mul]
      exact Nat.dvd_mul_left _ _
    exact Nat.Coprime.dvd_of_dvd_mul_left (by have := h1.2; unfold Int.gcd at this; exact Nat.Coprime.symm this) this
  have e2 : s.natAbs ∣ q.natAbs := by
    have : s.natAbs ∣ r.natAbs * q.natAbs := by
      rw [← Int.natAbs_mul, ← h, Int.natAbs_mul]
      exact Nat.dvd_mul_left _ _
    exact Nat.Coprime.dvd_of_dvd_mul_left (by have := h2.2; unfold Int.gcd at this; exact Nat.Coprime.symm this) this
  have e3 : q.natAbs = s.natAbs := Nat.dvd_antisymm e1 e2
  have e4 : q = s := by have := h1.1; have := h2.1; omega
  subst e4
  refine ⟨?_, rfl⟩
  exact Int.eq_of_mul_eq_mul_right (by have := h1.1; omega) h
theorem red_same {p q : Int} (h : IsNum p q) : red p q = (p, q) := by
  have hq : q ≠ 0 := by have := h.1; omega
  obtain ⟨e1, e2⟩ := num_ext (red_num (a := p) hq) h (red_cross hq)
  exact Prod.ext e1 e2
/-- a result is known by its cross product -/
theorem red_eq {a b p q : Int} (hb : b ≠ 0) (h : IsNum p q) (e : a * q = p * b) : red a b = (p, q) := by
  have h1 := red_cross (a := a) hb
  have h2 := red_num (a := a) hb
  have : (red a b).1 * q = p * (red a b).2 := by
    apply Int.eq_of_mul_eq_mul_right hb
    calc (red a b).1 * q * b = (red a b).1 * b * q := by rw [Int.mul_right_comm]
      _ = a * (red a b).2 * q := by rw [h1]
      _ = a * q * (red a b).2 := by rw [Int.mul_right_comm]
      _ = p * b * (red a b).2 := by rw [e]
      _ = p * (red a b).2 * b := by rw [Int.mul_right_comm]
  obtain ⟨e1, e2⟩ := num_ext h2 h this
  exact Prod.ext e1 e2
theorem gcd_step {x y : Int} (hx : 0 ≤ x) (hy : 0 < y) : Int.gcd y (x % y) = Int.gcd x y := by
  unfold Int.gcd
  rw [Int.natAbs_emod_of_nonneg hx, Nat.gcd_comm, ← Nat.gcd_rec, Nat.gcd_comm]
end Rm
/-! Data in the abstract heap: what kind it is, how it is carried over, how long its text is; rules by data. -/
namespace Rm
open PySem PySem.W PySem.Calls PyProof.Rows PySem.Spec L2
/-- all that is tracked stays, but at d -/
def Exb (d : Addr) (H H' : Hp) : Prop := ∀ a o, a ≠ d → H a = some o → H' a = some o
abbrev Ex := Evl.Ex
theorem Exb.refl {d : Addr} {H : Hp} : Exb d H H := fun _ _ _ e => e
theorem Exb.of {d : Addr} {H H' : Hp} (e : Ex H H') : Exb d H H' := fun a o _ z => e a o z
theorem Exb.trans {d : Addr} {H H1 H2 : Hp} (a : Exb d H H1) (b : Exb d H1 H2) : Exb d H H2 := fun x o n e => b x o n (a x o n e)
theorem Ex.upd {H : Hp} {p : Addr} {o : HO} (h : H p = none) : Ex H (upd H p o) := Evl.Ex.new h
/-- what carries data over -/
structure Car (H H' : Hp) : Prop where
  lst : ∀ a xs, Rd H a (.lst xs) → Rd H' a (.lst xs)
  tup : ∀ a xs, Rd H a (.tup xs) → Rd H' a (.tup xs)
theorem Car.ex {H H' : Hp} (e : Ex H H') : Car H H' := ⟨fun _ _ r => Evl.ex_rd e r, fun _ _ r => Evl.ex_rd e r⟩
theorem Car.exb {d : Addr} {kvs : List (Key × V)} {H H' : Hp} (hd : H d = some (.dK kvs)) (e : Exb d H H') : Car H H' := by
  have key : ∀ (a : Addr) (u : HO), (∀ k, u ≠ .dK k) → Rd H a u → Rd H' a u := fun a u hu r => by
    rcases r with r | ⟨o, r⟩
    · exact .inl (e a _ (fun z => by rw [z, hd] at r; cases r; exact hu _ rfl) r)
    · exact .inr ⟨o, e a _ (fun z => by rw [z, hd] at r; cases r) r⟩
  exact ⟨fun a xs r => key a _ (by intro k z; cases z) r, fun a xs r => key a _ (by intro k z; cases z) r⟩
theorem Car.l {K : Frag} {H H' : Hp} {a : Addr} {xs : List V} (c : Car H H') (h : SqL K H a xs) : SqL K H' a xs := h.imp (c.lst a xs) id
theorem Car.t {K : Frag} {H H' : Hp} {a : Addr} {xs : List V} (c : Car H H') (h : SqT K H a xs) : SqT K H' a xs := h.imp (c.tup a xs) id
theorem Car.trans {H H1 H2 : Hp} (a : Car H H1) (b : Car H1 H2) : Car H H2 := ⟨fun x xs r => b.lst x xs (a.lst x xs r), fun x xs r => b.tup x xs (a.tup x xs r)⟩
theorem Car.refl {H : Hp} : Car H H := ⟨fun _ _ r => r, fun _ _ r => r⟩
mutual
theorem Car.d {K : Frag} {H H' : Hp} (c : Car H H') : ∀ {d : PyData} {v : V}, Dp K H v d → Dp K H' v d
  | .none, _, h => by cases h; exact .non
  | .bool b, _, h => by cases h; exact .bl b
  | .int i, _, h => by cases h; exact .int i
  | .str x, _, h => by cases h; exact .str x
  | .list ds, _, h => by cases h with | lst a b => exact .lst (c.l a) (c.ds b)
  | .tuple ds, _, h => by cases h with | tup a b => exact .tup (c.t a) (c.ds b)
  | .dict _, _, h => by cases h
theorem Car.ds {K : Frag} {H H' : Hp} (c : Car H H') : ∀ {ds : List PyData} {vs : List V}, DpAll K H vs ds → DpAll K H' vs ds
  | [], _, h => by cases h; exact .nil
  | d :: ds, _, h => by cases h with | cons a b => exact .cons (c.d a) (c.ds b)
end
/-- the kind of data -/
def tyOf : PyData → String
  | .none => "NoneType" | .bool _ => "bool" | .int _ => "int" | .str _ => "str" | .list _ => "list" | .tuple _ => "tuple" | .dict _ => "dict"
theorem Dp.ty {K : Frag} {H : Hp} {v : V} {d : PyData} (h : Dp K H v d) : TyX K H v (.type (tyOf d)) := by
  cases h with
  | non => exact .base .non
  | bl b => exact .base (.bl b)
  | int i => exact .base (.int i)
  | str x => exact .base (.str x)
  | lst a _ =>
    rcases a with (a | ⟨o, a⟩) | ⟨o, its, n, e, c, _⟩
    · exact .base (.lst a)
    · exact .base (.frz a)
    · exact .kList e c
  | tup a _ =>
    rcases a with (a | ⟨o, a⟩) | ⟨o, its, n, e, c, _⟩
    · exact .base (.tup a)
    · exact .fTuple a
    · exact .kTuple e c
/-- isinstance(x, T) of data by a built-in class -/
def rIsD (K : Frag) : List V → Hp → VK → Prop := fun xs H Q => ∃ (x : V) (n : String) (d : PyData) (b : Bool), xs = [x, .ty n] ∧ Dp K H x d ∧ kitB (tyOf d) n = some b ∧ Q (.bl b) H
theorem call_isD {X : Cx} : CallR X (.builtin "isinstance") (rIsD X.K) := fun pins s σ H xs us Q I r ⟨x, n, d, b, ex, hd, hk, q⟩ =>
  call_isi pins s σ H xs us Q I r ⟨x, .ty n, .type (tyOf d), .type n, b, ex, .ty n, Dp.ty hd, kit_ty hk, q⟩
/-- a pair of ints stands at x -/
def NumAt (K : Frag) (H : Hp) (x : V) (p q : Int) : Prop := ∃ a, x = .ref a ∧ SqT K H a [.int p, .int q]
theorem NumAt.d {K : Frag} {H : Hp} {x : V} {p q : Int} (h : NumAt K H x p q) : Dp K H x (.tuple [.int p, .int q]) := by
  obtain ⟨a, rfl, h⟩ := h
  exact .tup h (.cons (.int p) (.cons (.int q) .nil))
theorem NumAt.of {K : Frag} {H : Hp} {x : V} {p q : Int} (h : Dp K H x (.tuple [.int p, .int q])) : NumAt K H x p q := by
  cases h with
  | tup a b =>
    cases b with
    | cons c d =>
      cases c
      cases d with
      | cons e f =>
        cases e
        cases f
        exact ⟨_, rfl, a⟩
theorem NumAt.c {K : Frag} {H H' : Hp} {x : V} {p q : Int} (h : NumAt K H x p q) (c : Car H H') : NumAt K H' x p q := by
  obtain ⟨a, e, h⟩ := h
  exact ⟨a, e, c.t h⟩
theorem NumAt.new {K : Frag} {H : Hp} {a : Addr} {p q : Int} (h : H a = some (.tup [.int p, .int q])) : NumAt K H (.ref a) p q := ⟨a, rfl, SqT.of h⟩
/-- a pair is handed back -/
def RNum (H : Hp) (Q : VK) (r : Int × Int) : Prop := ∀ p H', H p = none → Ex H H' → H' p = some (.tup [.int r.1, .int r.2]) → Q (.ref p) H'
/-! ### lengths of texts -/
mutual
def wt : PyData → Nat
  | .none => 4
  | .bool _ => 5
  | .int _ => 1921
  | .str x => (reprText x).length
  | .list xs => wtAll xs + 2
  | .tuple xs => wtAll xs + 3
  | .dict _ => 0
def wtAll : List PyData → Nat
  | [] => 0
  | x :: xs => wt x + 2 + wtAll xs
end
def lens (ts : List Str) : Nat := (ts.map fun t => t.length + 2).sum
theorem textFrom_le : ∀ (ts : List Str) (k : Nat) (acc : Str), (textFrom k acc ts).length ≤ acc.length + lens ts
  | [], k, acc => by simp [textFrom, lens]
  | t :: r, k, acc => by
    have h := textFrom_le r (k + 1) (acc ++ (if k > 0 then ", " else "" : String) ++ t)
    have e : textFrom k acc (t :: r) = textFrom (k + 1) (acc ++ (if k > 0 then ", " else "" : String) ++ t) r := rfl
    rw [e]
    have e2 : (acc ++ (if k > 0 then ", " else "" : String) ++ t : Str).length ≤ acc.length + 2 + t.length := by
      rw [Str.length_append, Str.length_append]
      have : (Str.ofString (if k > 0 then ", " else "")).length ≤ 2 := by split <;> decide
      omega
    have e3 : lens (t :: r) = t.length + 2 + lens r := by simp [lens]
    omega
theorem listText_le (ts : List Str) : (listText ts).length ≤ lens ts + 2 := by
  have h := textFrom_le ts 0 "["
  unfold listText
  rw [Str.length_append]
  have e1 : (Str.ofString "[").length = 1 := by decide
  have e2 : (Str.ofString "]").length = 1 := by decide
  omega
theorem join_le : ∀ ts : List Str, (Str.join ", " ts).length ≤ lens ts
  | [] => by decide
  | [x] => by show x.length ≤ _; simp [lens]
  | x :: y :: r => by
    have h := join_le (y :: r)
    show (x ++ Str.ofString ", " ++ Str.join ", " (y :: r)).length ≤ _
    rw [Str.length_append, Str.length_append]
    have e1 : (Str.ofString ", ").length = 2 := by decide
    have e3 : lens (x :: y :: r) = x.length + 2 + lens (y :: r) := by simp [lens]
    omega
theorem tupleText_le (ts : List Str) : (tupleText ts).length ≤ lens ts + 3 := by
  have h := join_le ts
  unfold tupleText
  rw [Str.length_append, Str.length_append]
  have e1 : (Str.ofString "(").length = 1 := by decide
  have e2 : (Str.ofString (if ts.length == 1 then ",)" else ")")).length ≤ 2 := by split <;> decide
  omega
mutual
theorem shown_le : ∀ d : PyData, d.showable = true → d.hasDict = false → d.shown.length ≤ wt d
  | .none, _, _ => by simp only [PyData.shown, wt]; decide
  | .bool b, _, _ => by simp only [PyData.shown, wt]; cases b <;> decide
  | .int i, h, _ => by
    simp only [PyData.shown, wt]
    exact int_text_len_1921 (by simpa [PyData.showable] using h)
  | .str x, _, _ => by simp only [PyData.shown, wt]; exact Nat.le_refl _
  | .list xs, h, hd => by
    simp only [PyData.shown, wt]
    have := shownAll_le xs (by simpa [PyData.showable] using h) (by simpa [PyData.hasDict] using hd)
    exact Nat.le_trans (listText_le _) (by omega)
  | .tuple xs, h, hd => by
    simp only [PyData.shown, wt]
    have := shownAll_le xs (by simpa [PyData.showable] using h) (by simpa [PyData.hasDict] using hd)
    exact Nat.le_trans (tupleText_le _) (by omega)
  | .dict _, _, hd => by simp [PyData.hasDict] at hd
theorem shownAll_le : ∀ xs : List PyData, PyData.showableAll xs = true → PyData.hasDictAll xs = false → lens (PyData.shownAll xs) ≤ wtAll xs
  | [], _, _ => by simp [PyData.shownAll, lens, wtAll]
  | x :: xs, h, hd => by
    have h' : x.showable = true ∧ PyData.showableAll xs = true := by simpa [PyData.showableAll] using h
    have hd' : x.hasDict = false ∧ PyData.hasDictAll xs = false := by simpa [PyData.hasDictAll] using hd
    have h1 := shown_le x h'.1 hd'.1
    have h2 := shownAll_le xs h'.2 hd'.2
    have e : lens (PyData.shownAll (x :: xs)) = x.shown.length + 2 + lens (PyData.shownAll xs) := by simp [lens, PyData.shownAll]
    simp only [wtAll]
    omega
end
end Rm
/-! Promises of the program's defs about numbers. -/
namespace Rm
open PySem PySem.W PySem.Calls PyProof.Rows PySem.Spec L2
def sp1 (f : V → Hp → VK → XK → Prop) : Sp := fun vs H Q E => ∃ a, vs = [a] ∧ f a H Q E
def sp2 (f : V → V → Hp → VK → XK → Prop) : Sp := fun vs H Q E => ∃ a b, vs = [a, b] ∧ f a b H Q E
def sp3 (f : V → V → V → Hp → VK → XK → Prop) : Sp := fun vs H Q E => ∃ a b c, vs = [a, b, c] ∧ f a b c H Q E
def sp4 (f : V → V → V → V → Hp → VK → XK → Prop) : Sp := fun vs H Q E => ∃ a b c d, vs = [a, b, c, d] ∧ f a b c d H Q E
theorem sp1_len {f} {x : Str} (vs : List V) (H : Hp) (Q : VK) (E : XK) (h : sp1 f vs H Q E) : vs.length = [x].length := by obtain ⟨_, rfl, _⟩ := h; rfl
theorem sp2_len {f} {x y : Str} (vs : List V) (H : Hp) (Q : VK) (E : XK) (h : sp2 f vs H Q E) : vs.length = [x, y].length := by obtain ⟨_, _, rfl, _⟩ := h; rfl
theorem sp3_len {f} {x y z : Str} (vs : List V) (H : Hp) (Q : VK) (E : XK) (h : sp3 f vs H Q E) : vs.length = [x, y, z].length := by obtain ⟨_, _, _, rfl, _⟩ := h; rfl
theorem sp4_len {f} {x y z u : Str} (vs : List V) (H : Hp) (Q : VK) (E : XK) (h : sp4 f vs H Q E) : vs.length = [x, y, z, u].length := by obtain ⟨_, _, _, _, rfl, _⟩ := h; rfl
/-- sizes: below two to the n -/
def Bd (n : Nat) (i : Int) : Prop := i.natAbs < 2 ^ n
theorem Bd.mono {m n : Nat} {i : Int} (h : Bd m i) (hm : m ≤ n) : Bd n i := Nat.lt_of_lt_of_le h (Nat.pow_le_pow_right (by decide) hm)
theorem Bd.mul {m n : Nat} {i j : Int} (h : Bd m i) (k : Bd n j) : Bd (m + n) (i * j) := by
  unfold Bd at *
  rw [Int.natAbs_mul, Nat.pow_add]
  exact Nat.mul_lt_mul'' h k
theorem Bd.add {m : Nat} {i j : Int} (h : Bd m i) (k : Bd m j) : Bd (m + 1) (i + j) := by
  unfold Bd at *
  have : (i + j).natAbs ≤ i.natAbs + j.natAbs := Int.natAbs_add_le ..
  rw [Nat.pow_succ]
  omega
theorem Bd.neg {m : Nat} {i : Int} (h : Bd m i) : Bd m (-i) := by unfold Bd at *; rwa [Int.natAbs_neg]
theorem Bd.sub {m : Nat} {i j : Int} (h : Bd m i) (k : Bd m j) : Bd (m + 1) (i - j) := by rw [Int.sub_eq_add_neg]; exact h.add k.neg
theorem Bd.log {n : Nat} {i : Int} (h : Bd n i) (hn : 0 < n) : i.natAbs.log2 < n := PySem.Flt.log2_lt_of hn h
theorem Bd.mulW {m n : Nat} {i j : Int} (h : Bd m i) (k : Bd n j) (hm : 0 < m := by decide) (hn : 0 < n := by decide) (hs : m + n ≤ 1000000 := by decide) : CMulW i j := wide_mul h k hm hn hs
theorem Bd.fdiv {i j : Int} (h : Bd 9000 j) (h0 : j ≠ 0) : CDivS i j := ⟨h0, h.log (by decide)⟩
theorem Bd.red1 {n : Nat} {a b : Int} (h : Bd n a) (hb : b ≠ 0) : Bd n (red a b).1 := Nat.lt_of_le_of_lt (red_le1 hb) h
theorem Bd.red2 {n : Nat} {a b : Int} (h : Bd n b) (hb : b ≠ 0) : Bd n (red a b).2 := Nat.lt_of_le_of_lt (red_le2 hb) h

def isIntD : PyData → Bool
  | .int _ => true
  | _ => false
def isNumD : PyData → Bool
  | .tuple [.int a, .int b] => decide (IsNum a b)
  | _ => false
def spIsInt (K : Frag) : Sp := sp1 fun x H Q _ => ∃ d, Dp K H x d ∧ Q (.bl (isIntD d)) H
def spGcd : Sp := sp2 fun x y H Q _ => ∃ a b, x = .int a ∧ y = .int b ∧ Q (.int (Int.gcd a b : Nat)) H
def spRed : Sp := sp2 fun x y H Q _ => ∃ a b, x = .int a ∧ y = .int b ∧ b ≠ 0 ∧ Bd 9000 b ∧ RNum H Q (red a b)
def spIsNum (K : Frag) : Sp := sp1 fun x H Q _ => ∃ d, Dp K H x d ∧ ∀ H', Ex H H' → Q (.bl (isNumD d)) H'
/-- the first that is no number -/
def fb : List V → List PyData → Option V
  | x :: xs, d :: ds => if isNumD d = true then fb xs ds else some x
  | _, _ => none
/-- an error of the class C with the one field f = x -/
def RErr (H : Hp) (E : XK) (C : Addr) (f : Str) (x : V) : Prop := ∀ d H', Ex H H' → H' d = some (.xd [(f, x)]) → E (.ref C) (some d) H'
def spCheckNums (K : Frag) (C : Addr) : Sp := fun vs H Q E => ∃ ds, vs.length ≤ 1000 ∧ DpAll K H vs ds ∧ match fb vs ds with
  | none => ∀ H', Ex H H' → Q .non H'
  | some x => RErr H E C "thing" x
def spCheckNums1 (K : Frag) (C : Addr) : Sp := sp1 fun x H Q E => ∃ p vs, x = .ref p ∧ SqT K H p vs ∧ spCheckNums K C vs H Q E
def spNumber (K : Frag) (C : Addr) : Sp := sp2 fun x y H Q E => ∃ dx dy, Dp K H x dx ∧ Dp K H y dy ∧
  ((∀ a b, dx = .int a → dy = .int b → b ≠ 0 → Bd 9000 b ∧ RNum H Q (red a b)) ∧
   ((∀ a b, dx = .int a → dy = .int b → b = 0) → ∀ t H1, H t = none → H1 = upd H t (.tup [x, y]) → RErr H1 E C "thing" (.ref t)))
/-- two numbers in, an operation by parts -/
def spNum2 (K : Frag) (f : Int → Int → Int → Int → Hp → VK → XK → Prop) : Sp := sp2 fun x y H Q E => ∃ p q r s, NumAt K H x p q ∧ NumAt K H y r s ∧ f p q r s H Q E
def spPlus (K : Frag) : Sp := spNum2 K fun p q r s H Q _ => Bd 4000 p ∧ Bd 4000 q ∧ Bd 4000 r ∧ Bd 4000 s ∧ q * s ≠ 0 ∧ RNum H Q (red (p * s + r * q) (q * s))
def spMinus (K : Frag) : Sp := spNum2 K fun p q r s H Q _ => Bd 4000 p ∧ Bd 4000 q ∧ Bd 4000 r ∧ Bd 4000 s ∧ q * s ≠ 0 ∧ RNum H Q (red (p * s - r * q) (q * s))
def spTimes (K : Frag) : Sp := spNum2 K fun p q r s H Q _ => Bd 4000 p ∧ Bd 4000 q ∧ Bd 4000 r ∧ Bd 4000 s ∧ q * s ≠ 0 ∧ RNum H Q (red (p * r) (q * s))
def spOver (K : Frag) : Sp := spNum2 K fun p q r s H Q _ => Bd 4000 p ∧ Bd 4000 q ∧ Bd 4000 r ∧ Bd 4000 s ∧ q * r ≠ 0 ∧ RNum H Q (red (p * s) (q * r))
def spLess (K : Frag) : Sp := spNum2 K fun p q r s H Q _ => Bd 4000 p ∧ Bd 4000 q ∧ Bd 4000 r ∧ Bd 4000 s ∧ Q (.bl (decide (p * s < r * q))) H
/-- any two things in: the first that is no number is refused, else f -/
def spBin (K : Frag) (C : Addr) (f : V → V → Int → Int → Int → Int → Hp → VK → XK → Prop) : Sp := sp2 fun x y H Q E => ∃ dx dy, Dp K H x dx ∧ Dp K H y dy ∧
  (∀ z, fb [x, y] [dx, dy] = some z → RErr H E C "thing" z) ∧
  (∀ p q r s, dx = .tuple [.int p, .int q] → dy = .tuple [.int r, .int s] → IsNum p q → IsNum r s → Bd 4000 p ∧ Bd 4000 q ∧ Bd 4000 r ∧ Bd 4000 s ∧ f x y p q r s H Q E)
def spAdd (K : Frag) (C : Addr) : Sp := spBin K C fun _ _ p q r s H Q _ => RNum H Q (red (p * s + r * q) (q * s))
def spSub (K : Frag) (C : Addr) : Sp := spBin K C fun _ _ p q r s H Q _ => RNum H Q (red (p * s - r * q) (q * s))
def spMul (K : Frag) (C : Addr) : Sp := spBin K C fun _ _ p q r s H Q _ => RNum H Q (red (p * r) (q * s))
def spDiv (K : Frag) (C : Addr) : Sp := spBin K C fun _ y p q r s H Q E => (r = 0 → RErr H E C "thing" y) ∧ (r ≠ 0 → RNum H Q (red (p * s) (q * r)))
def sgn3 (a b : Int) : Int := (if b < a then 1 else 0) - (if a < b then 1 else 0)
def spCmp (K : Frag) (C : Addr) : Sp := spBin K C fun _ _ p q r s H Q _ => ∀ H', Ex H H' → Q (.int (sgn3 (p * s) (r * q))) H'
def spWhole (K : Frag) : Sp := sp1 fun x H Q _ => ∃ p q, NumAt K H x p q ∧ q ≠ 0 ∧ Bd 9000 q ∧ Q (.int (p.fdiv q)) H
def spFloor (K : Frag) (C : Addr) : Sp := sp1 fun x H Q E => ∃ dx, Dp K H x dx ∧ (isNumD dx = false → RErr H E C "thing" x) ∧ (∀ p q, dx = .tuple [.int p, .int q] → IsNum p q → Bd 9000 q ∧ ∀ H', Ex H H' → Q (.int (p.fdiv q)) H')
theorem isNumD_inv {d : PyData} (h : isNumD d = true) : ∃ p q, d = .tuple [.int p, .int q] ∧ IsNum p q := by
  unfold isNumD at h
  split at h
  · exact ⟨_, _, rfl, of_decide_eq_true h⟩
  · cases h
end Rm
namespace Rm
open PySem PySem.W PySem.Calls PyProof.Rows PySem.Spec L2
def isIB : PyData → Bool
  | .int _ => true
  | .bool _ => true
  | _ => false
def isBoolD : PyData → Bool
  | .bool _ => true
  | _ => false
def isTupD : PyData → Bool
  | .tuple _ => true
  | _ => false
def isStrD : PyData → Bool
  | .str _ => true
  | _ => false
theorem kit_int (d : PyData) : kitB (tyOf d) "int" = some (isIB d) := by cases d <;> (simp only [tyOf, isIB]; decide +kernel)
theorem kit_bool (d : PyData) : kitB (tyOf d) "bool" = some (isBoolD d) := by cases d <;> (simp only [tyOf, isBoolD]; decide +kernel)
theorem kit_tuple (d : PyData) : kitB (tyOf d) "tuple" = some (isTupD d) := by cases d <;> (simp only [tyOf, isTupD]; decide +kernel)
theorem kit_str (d : PyData) : kitB (tyOf d) "str" = some (isStrD d) := by cases d <;> (simp only [tyOf, isStrD]; decide +kernel)
theorem DpAll.len {K : Frag} {H : Hp} : ∀ {vs : List V} {ds : List PyData}, DpAll K H vs ds → vs.length = ds.length
  | [], [], .nil => rfl
  | _ :: _, _ :: _, .cons _ t => congrArg (· + 1) (DpAll.len t)
theorem isNumD_tup {ds : List PyData} (h : ds.length ≠ 2) : isNumD (.tuple ds) = false := by
  match ds, h with
  | [], _ => rfl
  | [a], _ => cases a <;> rfl
  | a :: b :: c :: r, _ => cases a <;> (try rfl) <;> cases b <;> rfl
theorem isNumD_1 {a b : PyData} (h : isIntD a = false) : isNumD (.tuple [a, b]) = false := by cases a <;> first | rfl | cases h
theorem isNumD_2 {a b : PyData} (h : isIntD b = false) : isNumD (.tuple [a, b]) = false := by cases a <;> (try rfl) <;> cases b <;> first | rfl | cases h
theorem isIntD_inv {d : PyData} (h : isIntD d = true) : ∃ i, d = .int i := by cases d <;> first | exact ⟨_, rfl⟩ | cases h
theorem iteB {b : Bool} {A B : Prop} (h1 : b = true → A) (h2 : b = false → B) : if b = true then A else B := by
  cases b
  · exact iteF (h2 rfl)
  · exact iteT (h1 rfl)
theorem DpAll.two {K : Frag} {H : Hp} : ∀ {vs : List V} {ds : List PyData}, DpAll K H vs ds → vs.length = 2 → ∃ u v du dv, vs = [u, v] ∧ ds = [du, dv] ∧ Dp K H u du ∧ Dp K H v dv
  | [u, v], _, .cons a (.cons b .nil), _ => ⟨u, v, _, _, rfl, rfl, a, b⟩
theorem fb_drop {K : Frag} {H : Hp} : ∀ {vs : List V} {ds : List PyData} {i : Nat} {x : V}, DpAll K H vs ds → vs[i]? = some x → ∃ d, ds[i]? = some d ∧ Dp K H x d ∧ fb (vs.drop i) (ds.drop i) = (if isNumD d = true then fb (vs.drop (i + 1)) (ds.drop (i + 1)) else some x)
  | v :: vs, d :: ds, 0, x, .cons a b, h => by
    simp at h
    subst h
    exact ⟨d, rfl, a, rfl⟩
  | v :: vs, d :: ds, i + 1, x, .cons a b, h => by
    obtain ⟨d', e1, e2, e3⟩ := fb_drop (i := i) (x := x) b (by simpa using h)
    exact ⟨d', by simpa using e1, e2, by simpa using e3⟩
  | [], [], _, _, .nil, h => by simp at h
end Rm
namespace Rm
open PySem PySem.W PySem.Calls PyProof.Rows PySem.Spec L2
section
variable {P : Program} {w : World} {K : Frag} {mg : Str → Option Value} {base : Heap} {k : Nat} {f C : Addr} {fd : FuncData} {ps : List Str} {spB : Sp}
theorem FunD_okB {x qual : Str} {params : Arguments} {body : List Stmt} {scope : Scope} {dvs : List V} {kws : List (Str × V)} {N : List Str} (F : FunD K x qual params body scope dvs kws f fd) (S : FnScope N ps scope)
    (hbody : ∀ (cdv : Value) (A : Around) (outer : List Env) (s : Shared) (H : Hp) (vs : List V) (Q : VK) (E : XK), Room k (A.deeper (envOfC qual scope s.heap.objs.size f cdv)) → A.guards = some [] → spB vs H Q E →
      ∃ t, PSs (cxOf (L2.CX P w) P w K mg base N qual scope f cdv A outer s H E) body t ∧ t { nx := fun _ H' => Q .non H', rt := Q } (start N vs) H) : FnB P w K mg base (k + 1) f fd ps spB := by
  obtain ⟨oc, od, dV, kV, doc, pm, an, cdv, ct, osl, rfl, lk, hcd, _⟩ := F.ex
  exact fnB_of lk hcd S fun A outer s H vs Q E hr hg hsp => hbody cdv A outer s H vs Q E hr hg hsp
theorem pe_gcc {X : Cx} {x : Str} {v : V} {pos : Pos} (hg : Gl X x) (h : ∃ u, X.mg x = some u ∧ RelV v u) (hd : (x == ("__debug__" : Str)) = false := by decide) : PE X (.Name x pos) (tC v) := by
  obtain ⟨u, hm, r⟩ := h
  exact pe_glob hg hm r hd
variable {H H1 : Hp} {Q : VK} {E : XK} {vs : List V} {x y : V} {dx dy : PyData}
theorem RErr.ex {s : Str} (e : Ex H H1) (h : RErr H E C s x) : RErr H1 E C s x := fun d H' e' hd => h d H' (e.trans e') hd
theorem RNum.ex {r : Int × Int} (e : Ex H H1) (h : RNum H Q r) : RNum H1 Q r := fun p H' hp e' hd => h p H' (Evl.fresh_back e hp) (e.trans e') hd
theorem checkNums_in (h : spCheckNums K C vs H Q E) : vs.length ≤ sizeLine ∧ ∀ p, H p = none → spCheckNums1 K C [.ref p] (upd H p (.tup vs)) Q E := by
  obtain ⟨ds, hl, hd, q⟩ := h
  refine ⟨by rw [sizeLine_eq]; omega, fun p hp => ⟨_, rfl, p, vs, rfl, SqT.of upd_same, ds, hl, (Car.ex (Evl.Ex.new hp)).ds hd, ?_⟩⟩
  cases e : fb vs ds with
  | none =>
    rw [e] at q
    exact fun H' e' => q H' ((Evl.Ex.new hp).trans e')
  | some z =>
    rw [e] at q
    exact RErr.ex (Evl.Ex.new hp) q
theorem fb_none2 (h : fb [x, y] [dx, dy] = none) : isNumD dx = true ∧ isNumD dy = true := by
  simp only [fb] at h
  split at h
  · split at h
    · constructor <;> assumption
    · cases h
  · cases h
theorem fb_none1 (h : fb [x] [dx] = none) : isNumD dx = true := by
  simp only [fb] at h
  split at h
  · assumption
  · cases h
theorem fb_some1 {z : V} (h : fb [x] [dx] = some z) : isNumD dx = false ∧ z = x := by
  simp only [fb] at h
  split at h
  · cases h
  · cases h
    exact ⟨by simp_all, rfl⟩
/-- check_numbers(first, second) ahead of an operation by parts -/
theorem bin_in {Q' : VK} (hx : Dp K H x dx) (hy : Dp K H y dy) (qe : ∀ z, fb [x, y] [dx, dy] = some z → RErr H E C "thing" z)
    (qn : ∀ p q r s, dx = .tuple [.int p, .int q] → dy = .tuple [.int r, .int s] → IsNum p q → IsNum r s → ∀ H', Ex H H' → NumAt K H' x p q → NumAt K H' y r s → Q' .non H') :
    [x, y].length ≤ sizeLine ∧ ∀ p, H p = none → spCheckNums1 K C [.ref p] (upd H p (.tup [x, y])) Q' E := by
  refine checkNums_in ⟨[dx, dy], by show 2 ≤ 1000; decide, .cons hx (.cons hy .nil), ?_⟩
  cases e : fb [x, y] [dx, dy] with
  | some z => exact qe z e
  | none =>
    obtain ⟨h1, h2⟩ := fb_none2 e
    obtain ⟨p, q, rfl, i1⟩ := isNumD_inv h1
    obtain ⟨r, s, rfl, i2⟩ := isNumD_inv h2
    exact fun H' e' => qn p q r s rfl rfl i1 i2 H' e' (NumAt.of ((Car.ex e').d hx)) (NumAt.of ((Car.ex e').d hy))
end
theorem ne0_of {p q r s : Int} (h1 : IsNum p q) (h2 : IsNum r s) : q * s ≠ 0 := by
  have := Int.mul_pos (show (0 : Int) < q from h1.1) (show (0 : Int) < s from h2.1)
  omega
theorem shaped_num (p q : Int) : SeqAt.shaped (.tuple [.int p, .int q]) = true := by
  simp [SeqAt.shaped, PyData.canLay0, PyData.canLayAll0, PyData.depth, PyData.depthAll]
theorem eqv_num (p q r s : Int) : PyData.eqv (.tuple [.int p, .int q]) (.tuple [.int r, .int s]) = (decide (p = r) && decide (q = s)) := by
  simp only [PyData.eqv, PyData.eqvAll, Bool.and_true]
  rfl
end Rm
namespace Rm
open PySem PySem.W PySem.Calls PyProof.Rows PySem.Spec L2
/-- all parameters given by place, whatever the defaults are -/
theorem _root_.L2.FunD.bindsP {K : Frag} {x qual : Str} {params : Arguments} {body : List Stmt} {scope : Scope} {dvs : List V} {kws : List (Str × V)} {f : Addr} {fd : FuncData} {ps : List Str} (F : FunD K x qual params body scope dvs kws f fd)
    (h : ∀ (dV kV doc pm : Value) (an : Option Addr) (cdv ct : Value) (us : List Value), us.length = ps.length → bindArgs (fnOf x qual params body scope dV kV doc pm an cdv ct) ⟨us, []⟩ = pure (ps.zip us)) : Binds K fd ps [] := by
  obtain ⟨oc, od, dV, kV, doc, pm, an, cdv, ct, osl, rfl, _⟩ := F.ex
  exact Binds.all fun us hl => h dV kV doc pm an cdv ct us hl
end Rm
namespace Rm
open PySem PySem.W PySem.Calls PyProof.Rows PySem.Spec L2
/-- a call of a def with defaults, whatever its shape: the defaults' tuple is read -/
theorem _root_.L2.FunD.toB {K : Frag} {x qual : Str} {params : Arguments} {body : List Stmt} {scope : Scope} {dvs : List V} {kws : List (Str × V)} {f : Addr} {fd : FuncData} (F : FunD K x qual params body scope dvs kws f fd) (hd : dvs ≠ []) {args : Args} {binds : List (Str × Value)}
    (h : ∀ (T : Addr) (kV doc pm : Value) (an : Option Addr) (cdv ct : Value) (its : List Value), its.length = dvs.length →
      ∃ k, bindArgs (fnOf x qual params body scope (.ref T) kV doc pm an cdv ct) args = seqItems? (.ref T) >>= k ∧ k (some its.toArray) = pure binds) (s : Shared) (X : K.In s.heap) : BindsTo s fd args binds := by
  obtain ⟨oc, od, dV, kV, doc, pm, an, cdv, ct, osl, rfl, _, _, hD, _⟩ := F.ex
  rcases hD with ⟨e, _⟩ | ⟨_, T, o, its, n, rfl, lT, oT, r⟩
  · exact absurd e hd
  · obtain ⟨k, h1, h2⟩ := h T kV doc pm an cdv ct its r.length.symm
    refine BindsTo.of_looks fun M => ?_
    rw [h1]
    exact looks_items X lT oT (Looks.of_pure h2)
end Rm
namespace Rm
open PySem PySem.W PySem.Calls PyProof.Rows PySem.Spec L2
/-- the arguments in another order -/
def permV (ix : List Nat) (vs : List V) : List V := ix.map fun i => vs.getD i .non
def permU (ix : List Nat) (us : List Value) : List Value := ix.map fun i => us.getD i Value.none
theorem vals_getD : ∀ {vs : List V} {us : List Value} (i : Nat), Vals vs us → RelV (vs.getD i .non) (us.getD i Value.none)
  | [], [], i, .nil => by simp; rfl
  | _ :: _, _ :: _, 0, .cons a _ => by simpa using a
  | v :: vs, u :: us, i + 1, .cons _ b => by simpa using vals_getD i b
theorem vals_perm {vs : List V} {us : List Value} (r : Vals vs us) : ∀ ix : List Nat, Vals (permV ix vs) (permU ix us)
  | [] => .nil
  | i :: ix => .cons (vals_getD i r) (vals_perm r ix)
theorem FnB.perm {P : Program} {w : World} {K : Frag} {mg : Str → Option Value} {base : Heap} {k : Nat} {f : Addr} {fd : FuncData} {ps ks : List Str} {spB : Sp} (F : FnB P w K mg base k f fd ps spB) (ix : List Nat) (m : Nat)
    (hl : ∀ vs H Q E, spB vs H Q E → vs.length = ps.length)
    (hb : ∀ (s : Shared) (us ws : List Value), K.In s.heap → ws.length = ks.length → (us ++ ws).length = m → BindsTo s fd ⟨us, ks.zip ws⟩ (ps.zip (permU ix (us ++ ws)))) :
    CallG P w K mg base k f ks (fun vs H Q E => vs.length = m ∧ spB (permV ix vs) H Q E) := fun A outer s H us ws vs zs Q E hr hgd e0 r1 r2 hw hsp => by
  obtain ⟨hm, hsp⟩ := hsp
  have r0 := r1.append r2
  have r := vals_perm r0 ix
  have len := hl _ _ _ _ hsp
  refine F A outer s H _ Q E (fun vs' H2 => vs' = permV ix (vs ++ zs) ∧ H2 = H) hr hgd e0 (fun A' Ex Q' h => ?_) fun vs' H2 z => by
    obtain ⟨rfl, rfl⟩ := z
    exact hsp
  refine hb s us ws (e0.mod.kin.keeps fun b o e => (e0.bs b o e).1) hw (by rw [← r0.length]; exact hm) _ _ _ _ ?_
  exact h s H _ _ e0 Un.refl rfl (fun _ _ z => z) r len ⟨rfl, rfl⟩
end Rm
/-! The draws of a law: a dict of the cells that are left. -/
namespace Rm
open PySem PySem.W PySem.Calls PyProof.Rows PySem.Spec L2
/-- list + list, whoever laid them -/
def rCatL (K : Frag) : R2 := fun x y H Q => ∃ l b xs zs, x = .ref l ∧ y = .ref b ∧ SqL K H l xs ∧ SqL K H b zs ∧ xs.length + zs.length ≤ sizeLine ∧ ∀ p, H p = none → Q (.ref p) (upd H p (.lst (xs ++ zs)))
theorem op_catL {X : Cx} : OpR X (binaryOp .Add) (rCatL X.K) := by
  intro pins s σ H x y v u Q I rx ry h
  obtain ⟨l, b, xs, zs, rfl, rfl, hH, hB, hz, q⟩ := h
  cases rx
  cases ry
  obtain ⟨its, r, ⟨⟨cls, dd, data, sl⟩, n, ho, hc, _, hd⟩, _⟩ := I.list hH
  obtain ⟨its2, r2, ⟨⟨cls2, dd2, data2, sl2⟩, n2, ho2, hc2, _, hd2⟩, _⟩ := I.list hB
  simp only at hc hd hc2 hd2
  subst hc hd hc2 hd2
  have hsz : its.toArray.size + its2.toArray.size ≤ sizeLine := by
    rw [List.size_toArray, List.size_toArray, ← r.length, ← r2.length]
    exact hz
  refine concat_meets ⟨_, ho, rfl⟩ ⟨_, ho2, rfl⟩ noFill_list_add seq_list_add PySem.F.slot_list_add PySem.F.entry_list_add (PySem.F.args_list_add_2 _ _) (list_addW l b its.toArray its2.toArray n n2 dd dd2 sl sl2 hsz) ⟨ho, ho2, ?_⟩
  have ea : its.toArray ++ its2.toArray = (its ++ its2).toArray := by simp
  rw [ea]
  exact ⟨.ref _, _, I.lnew (t' := s.toks) (r.append r2) (by rw [List.length_append]; exact hz), rfl, q _ I.fresh⟩
def drawD (c : Addr) (a l u : Int) : List (Key × V) := [(.inr "cells", .ref c), (.inr "at", .int a), (.inr "left", .int l), (.inr "used", .int u)]
/-- the draws at d after n of them at most -/
def DrawAt (K : Frag) (H : Hp) (d : Addr) (n : Nat) : Prop := ∃ (c : Addr) (cells : List Int) (a l u : Int), H d = some (.dK (drawD c a l u)) ∧ SqL K H c (cells.map V.int) ∧ cells ≠ [] ∧ cells.length ≤ 1000 ∧ 0 ≤ a ∧ a ≤ n ∧ 0 ≤ u ∧ u ≤ n
section
variable {K : Frag} {H H' : Hp} {d : Addr} {n m : Nat}
theorem DrawAt.mono (h : DrawAt K H d n) (hm : n ≤ m) : DrawAt K H d m := by
  obtain ⟨c, cells, a, l, u, h1, h2, h3, h4, h5, h6, h7, h8⟩ := h
  exact ⟨c, cells, a, l, u, h1, h2, h3, h4, h5, by omega, h7, by omega⟩
theorem DrawAt.ex (h : DrawAt K H d n) (e : Ex H H') : DrawAt K H' d n := by
  obtain ⟨c, cells, a, l, u, h1, h2, h3⟩ := h
  exact ⟨c, cells, a, l, u, e _ _ h1, (Car.ex e).l h2, h3⟩
theorem DrawAt.car (h : DrawAt K H d n) (e : Exb d H H') : Car H H' := by
  obtain ⟨c, cells, a, l, u, h1, _⟩ := h
  exact Car.exb h1 e
end
theorem draw_cells {c : Addr} {a l u : Int} : valV (drawD c a l u) (.inr "cells") = some (.ref c) := by kernel_rfl
theorem draw_at {c : Addr} {a l u : Int} : valV (drawD c a l u) (.inr "at") = some (.int a) := by kernel_rfl
theorem draw_left {c : Addr} {a l u : Int} : valV (drawD c a l u) (.inr "left") = some (.int l) := by kernel_rfl
theorem draw_used {c : Addr} {a l u : Int} : valV (drawD c a l u) (.inr "used") = some (.int u) := by kernel_rfl
theorem put_at {c : Addr} {a l u i : Int} : putK (drawD c a l u) (.inr "at") (.int i) = drawD c i l u := by kernel_rfl
theorem put_left {c : Addr} {a l u i : Int} : putK (drawD c a l u) (.inr "left") (.int i) = drawD c a i u := by kernel_rfl
theorem put_used {c : Addr} {a l u i : Int} : putK (drawD c a l u) (.inr "used") (.int i) = drawD c a l i := by kernel_rfl
section
variable {H : Hp} {d c : Addr} {a l u i : Int}
theorem dget_cells (h : H d = some (.dK (drawD c a l u))) : DGet H d (.str "cells") (some (.ref c)) := draw_cells (c := c) (a := a) (l := l) (u := u) ▸ DGet.k (k := Sum.inr "cells") h
theorem dget_at (h : H d = some (.dK (drawD c a l u))) : DGet H d (.str "at") (some (.int a)) := draw_at (c := c) (a := a) (l := l) (u := u) ▸ DGet.k (k := Sum.inr "at") h
theorem dget_left (h : H d = some (.dK (drawD c a l u))) : DGet H d (.str "left") (some (.int l)) := draw_left (c := c) (a := a) (l := l) (u := u) ▸ DGet.k (k := Sum.inr "left") h
theorem dget_used (h : H d = some (.dK (drawD c a l u))) : DGet H d (.str "used") (some (.int u)) := draw_used (c := c) (a := a) (l := l) (u := u) ▸ DGet.k (k := Sum.inr "used") h
theorem lenD : (drawD c a l u).length < sizeLine := by rw [sizeLine_eq]; show 4 < 16777216; decide
theorem dput_at (h : H d = some (.dK (drawD c a l u))) : DPut H d (.str "at") (.int i) (upd H d (.dK (drawD c i l u))) := put_at (c := c) (a := a) (l := l) (u := u) (i := i) ▸ DPut.k (k := Sum.inr "at") h lenD
theorem dput_left (h : H d = some (.dK (drawD c a l u))) : DPut H d (.str "left") (.int i) (upd H d (.dK (drawD c a i u))) := put_left (c := c) (a := a) (l := l) (u := u) (i := i) ▸ DPut.k (k := Sum.inr "left") h lenD
theorem dput_used (h : H d = some (.dK (drawD c a l u))) : DPut H d (.str "used") (.int i) (upd H d (.dK (drawD c a l i))) := put_used (c := c) (a := a) (l := l) (u := u) (i := i) ▸ DPut.k (k := Sum.inr "used") h lenD
end
theorem Exb.upd {d : Addr} {H H' : Hp} {o : HO} (e : Exb d H H') : Exb d H (upd H' d o) := fun a u n h => by
  rw [upd_ne n]
  exact e a u n h
theorem Exb.ex {d : Addr} {H H1 H' : Hp} (a : Exb d H H1) (b : Ex H1 H') : Exb d H H' := a.trans (Exb.of b)
theorem Exb.exl {d : Addr} {H H1 H' : Hp} (a : Ex H H1) (b : Exb d H1 H') : Exb d H H' := (Exb.of a).trans b
/-- promises of the drawing defs -/
def spBegin (K : Frag) : Sp := sp1 fun x H Q _ => ∃ (a : Addr) (ns : List Int), x = .ref a ∧ SqL K H a (ns.map V.int) ∧ ns.length ≤ 63 ∧ ∀ d H', H d = none → Ex H H' → DrawAt K H' d 0 → Q (.ref d) H'
def spMixed : Sp := sp2 fun x y H Q _ => ∃ c k, x = .int c ∧ y = .int k ∧ 0 ≤ k ∧ k < 2 ^ 60 ∧ ∀ r, Q (.int r) H
def RDr (K : Frag) (H : Hp) (d : Addr) (n : Nat) (k : Hp → Prop) : Prop := ∀ H', DrawAt K H' d n → Exb d H H' → k H'
def spNext (K : Frag) : Sp := sp2 fun x y H Q _ => ∃ d n b, x = .ref d ∧ y = .int b ∧ DrawAt K H d n ∧ n < 2 ^ 50 ∧ 0 < b ∧ b < 2 ^ 60 ∧ ∀ r, 0 ≤ r → r < b → RDr K H d (n + 1) (Q (.int r))
theorem atI_mem {xs : List V} {r : Int} (h0 : 0 ≤ r) (h1 : r < xs.length) : ∃ v, atI xs r = some v ∧ v ∈ xs := by
  have e : ((r.toNat : Nat) : Int) = r := Int.toNat_of_nonneg h0
  have hn : r.toNat < xs.length := by omega
  refine ⟨xs[r.toNat], ?_, List.getElem_mem hn⟩
  have h : ixN xs.length r = some r.toNat := by
    unfold ixN
    rw [if_pos h0, if_pos (by omega)]
  unfold atI
  rw [h]
  show xs[r.toNat]? = _
  rw [List.getElem?_eq_getElem hn]
theorem sz5 {n : Nat} (h : n ≤ 1000) : n ≤ sizeLine := by rw [sizeLine_eq]; omega
theorem isNumD_is {p q : Int} (i : IsNum p q) : isNumD (.tuple [.int p, .int q]) = true := decide_eq_true i
theorem fb_nums {x y : V} {p q r s : Int} (i1 : IsNum p q) (i2 : IsNum r s) : fb [x, y] [.tuple [.int p, .int q], .tuple [.int r, .int s]] = none := by
  simp only [fb, isNumD_is i1, isNumD_is i2, if_true]
/-- an operation that refuses -/
theorem bin_ref {K : Frag} {C : Addr} {f : V → V → Int → Int → Int → Int → Hp → VK → XK → Prop} {x y v : V} {dx dy : PyData} {H : Hp} {Q : VK} {E : XK} (hx : Dp K H x dx) (hy : Dp K H y dy) (h : fb [x, y] [dx, dy] = some v) (r : RErr H E C "thing" v) :
    spBin K C f [x, y] H Q E := ⟨x, y, rfl, dx, dy, hx, hy, (fun z e => by
    rw [h] at e
    cases e
    exact r), (fun p q r s e1 e2 i1 i2 => by
    subst e1 e2
    rw [fb_nums i1 i2] at h
    cases h)⟩
/-- an operation of two numbers -/
theorem bin_num {K : Frag} {C : Addr} {f : V → V → Int → Int → Int → Int → Hp → VK → XK → Prop} {x y : V} {p q r s : Int} {H : Hp} {Q : VK} {E : XK} (hx : NumAt K H x p q) (hy : NumAt K H y r s) (i1 : IsNum p q) (i2 : IsNum r s)
    (b1 : Bd 4000 p) (b2 : Bd 4000 q) (b3 : Bd 4000 r) (b4 : Bd 4000 s) (h : f x y p q r s H Q E) :
    spBin K C f [x, y] H Q E := ⟨x, y, rfl, _, _, hx.d, hy.d, (fun z e => by
    rw [fb_nums i1 i2] at e
    cases e), (fun p' q' r' s' e1 e2 _ _ => by
    cases e1
    cases e2
    exact ⟨b1, b2, b3, b4, h⟩)⟩
/-- data that repr shows: how deep, how long -/
structure Gd (k m : Nat) (d : PyData) : Prop where
  s : d.showable = true
  n : d.hasDict = false
  p : d.depth ≤ k
  w : wt d ≤ m
theorem Gd.mono {k m k' m' : Nat} {d : PyData} (g : Gd k m d) (h1 : k ≤ k') (h2 : m ≤ m') : Gd k' m' d := ⟨g.s, g.n, Nat.le_trans g.p h1, Nat.le_trans g.w h2⟩
theorem Gd.l {k : Nat} {d : PyData} (g : Gd k 16000000 d) : d.shown.length ≤ sizeLine := by rw [sizeLine_eq]; have := shown_le d g.s g.n; have := g.w; omega
theorem rep_gd {K : Frag} {H : Hp} {Q : VK} {x : V} {d : PyData} (hd : Dp K H x d) (g : Gd 100 16000000 d) (q : Q (.str d.shown) H) : rReprD K [x] H Q :=
  ⟨x, d, rfl, hd, g.s, g.n, g.p, by rw [sizeLine_eq]; have := shown_le d g.s g.n; have := g.w; omega, q⟩
theorem Gd.int {i : Int} (h : Bd 1900 i) : Gd 0 1921 (.int i) := ⟨by simp only [PyData.showable]; have := h.log (by decide); simp; omega, by simp [PyData.hasDict], by simp [PyData.depth], by simp [wt]⟩
theorem Gd.two {k m : Nat} {x y : PyData} (a : Gd k m x) (b : Gd k m y) : Gd (k + 1) (2 * m + 10) (.list [x, y]) := by
  have h1 := a.p
  have h2 := b.p
  have h3 := a.w
  have h4 := b.w
  refine ⟨?_, ?_, ?_, ?_⟩
  · simp [PyData.showable, PyData.showableAll, a.s, b.s]
  · simp [PyData.hasDict, PyData.hasDictAll, a.n, b.n]
  · simp only [PyData.depth, PyData.depthAll]; omega
  · simp only [wt, wtAll]; omega
theorem Gd.pair {k m : Nat} {x y : PyData} (a : Gd k m x) (b : Gd k m y) : Gd (k + 1) (2 * m + 10) (.tuple [x, y]) := by
  have h1 := a.p
  have h2 := b.p
  have h3 := a.w
  have h4 := b.w
  refine ⟨?_, ?_, ?_, ?_⟩
  · simp [PyData.showable, PyData.showableAll, a.s, b.s]
  · simp [PyData.hasDict, PyData.hasDictAll, a.n, b.n]
  · simp only [PyData.depth, PyData.depthAll]; omega
  · simp only [wt, wtAll]; omega
theorem Gd.number {m : Nat} (hm : 20 ≤ m) {k : Nat} {x : PyData} (a : Gd k m x) : Gd (k + 1) (2 * m + 10) (.list [.str "number", x]) :=
  Gd.two (Gd.mono (k := 0) (m := 20) ⟨by decide +kernel, by simp [PyData.hasDict], by simp [PyData.depth], by decide +kernel⟩ (Nat.zero_le _) hm) a
theorem pick {K : Frag} {H : Hp} {Pd : PyData → Prop} : ∀ {xs : List V} {ds : List PyData} {r : Int}, DpAll K H xs ds → 0 ≤ r → r < xs.length → (∀ d ∈ ds, Pd d) → ∃ v d, atI xs r = some v ∧ Dp K H v d ∧ Pd d := by
  intro xs ds r h h0 h1 hp
  have key : ∀ (xs : List V) (ds : List PyData) (n : Nat), DpAll K H xs ds → n < xs.length → ∃ v d, xs[n]? = some v ∧ Dp K H v d ∧ d ∈ ds := by
    intro xs
    induction xs with
    | nil => intro ds n _ z; cases z
    | cons x xs ih =>
      intro ds n h z
      cases h with
      | cons a b =>
        cases n with
        | zero => exact ⟨_, _, rfl, a, List.mem_cons_self⟩
        | succ n =>
          obtain ⟨v, d, h1, h2, h3⟩ := ih _ n b (by simpa using z)
          exact ⟨v, d, by simpa using h1, h2, List.mem_cons_of_mem _ h3⟩
  have e : ((r.toNat : Nat) : Int) = r := Int.toNat_of_nonneg h0
  have hn : r.toNat < xs.length := by omega
  obtain ⟨v, d, h1, h2, h3⟩ := key xs ds r.toNat h hn
  refine ⟨v, d, ?_, h2, hp d h3⟩
  have h : ixN xs.length r = some r.toNat := by
    unfold ixN
    rw [if_pos h0, if_pos (by omega)]
  unfold atI
  rw [h]
  exact h1
/-- what one carries over a new object -/
theorem Dp.new {K : Frag} {H : Hp} {p : Addr} {x : V} {d : PyData} (o : HO) (h : H p = none) (hd : Dp K H x d) : Dp K (upd H p o) x d := (Car.ex (Evl.Ex.new h)).d hd
theorem Dp.tupN {K : Frag} {H : Hp} {p : Addr} {vs : List V} {ds : List PyData} (h : H p = none) (hd : DpAll K H vs ds) : Dp K (upd H p (.tup vs)) (.ref p) (.tuple ds) := .tup (SqT.of upd_same) ((Car.ex (Evl.Ex.new h)).ds hd)
theorem Dp.lstN {K : Frag} {H : Hp} {p : Addr} {vs : List V} {ds : List PyData} (h : H p = none) (hd : DpAll K H vs ds) : Dp K (upd H p (.lst vs)) (.ref p) (.list ds) := .lst (SqL.of upd_same) ((Car.ex (Evl.Ex.new h)).ds hd)
theorem red_all {A B : Int} {m n : Nat} (hB : B ≠ 0) (bA : Bd m A) (bB : Bd n B) : ∃ t1 t2, red A B = (t1, t2) ∧ IsNum t1 t2 ∧ Bd m t1 ∧ Bd n t2 ∧ t1 * B = A * t2 := ⟨(red A B).1, (red A B).2, rfl, red_num hB, bA.red1 hB, bB.red2 hB, red_cross hB⟩
theorem floor_num {K : Frag} {C : Addr} {x : V} {p q : Int} {H : Hp} {Q : VK} {E : XK} (hx : NumAt K H x p q) (i : IsNum p q) (b : Bd 9000 q) (h : ∀ H', Ex H H' → Q (.int (p.fdiv q)) H') : spFloor K C [x] H Q E :=
  ⟨x, rfl, _, hx.d, (fun z => absurd (isNumD_is i) (by rw [z]; simp)), (fun p' q' e _ => by
    cases e
    exact ⟨b, h⟩)⟩
theorem sgn3_neg (a b : Int) : sgn3 b a = 0 - sgn3 a b := by unfold sgn3; omega
theorem due_in {σ : L2.St} {H : Hp} {Q : VK} {p q r s : Int} {n m k j : Nat} (h1 : σ[n]? = some (some (.int p))) (h2 : σ[m]? = some (some (.int q))) (h3 : σ[k]? = some (some (.int r))) (h4 : σ[j]? = some (some (.int s))) (c1 : CMulW p s) (c2 : CMulW q r) (h : Q (.int (sgn3 (p * s) (r * q))) H) :
    tIf (tTest (tOp rEq (tOp (rI CMulW fun i j => .int (i * j)) (tVar n) (tVar j)) (tOp (rI CMulW fun i j => .int (i * j)) (tVar m) (tVar k)))) (tC (.int 0))
      (tIf (tTest (tOp (rI0 fun i j => .bl (decide (i > j))) (tOp (rI CMulW fun i j => .int (i * j)) (tVar n) (tVar j)) (tOp (rI CMulW fun i j => .int (i * j)) (tVar m) (tVar k)))) (tC (.int 1)) (tOp (rI0 fun i j => .int (i - j)) (tC (.int 0)) (tC (.int 1)))) σ H Q := by
  refine ⟨_, h1, _, h4, _, _, rfl, rfl, c1, _, h2, _, h3, _, _, rfl, rfl, c2, rfl, _, rfl, iteB (fun g => ?_) (fun g => ?_)⟩
  · have e : p * s = q * r := V.int.inj (of_decide_eq_true g)
    have : sgn3 (p * s) (r * q) = 0 := by rw [e, Int.mul_comm r q]; unfold sgn3; omega
    rw [this] at h
    exact h
  · have e : p * s ≠ q * r := fun z => of_decide_eq_false g (congrArg V.int z)
    refine ⟨_, h1, _, h4, _, _, rfl, rfl, c1, _, h2, _, h3, _, _, rfl, rfl, c2, _, _, rfl, rfl, _, rfl, iteB (fun g => ?_) (fun g => ?_)⟩
    · have e : p * s > q * r := of_decide_eq_true g
      have : sgn3 (p * s) (r * q) = 1 := by rw [Int.mul_comm r q]; unfold sgn3; omega
      rw [this] at h
      exact h
    · have e : ¬ p * s > q * r := of_decide_eq_false g
      have : sgn3 (p * s) (r * q) = 0 - 1 := by rw [Int.mul_comm r q]; unfold sgn3; omega
      rw [this] at h
      exact ⟨_, _, rfl, rfl, h⟩
theorem fdiv_le {p q : Int} (h : 1 ≤ q) : p.fdiv q * q ≤ p ∧ p < (p.fdiv q + 1) * q := by
  rw [Int.fdiv_eq_ediv_of_nonneg _ (by omega)]
  exact ⟨Int.ediv_mul_le p (by omega), Int.lt_ediv_add_one_mul_self p (by omega)⟩
theorem fdiv_bd {n : Nat} {p q : Int} (h : 1 ≤ q) (b : Bd n p) : Bd n (p.fdiv q) := by
  obtain ⟨h1, h2⟩ := fdiv_le (p := p) h
  unfold Bd at *
  refine Nat.lt_of_le_of_lt ?_ b
  generalize p.fdiv q = l at h1 h2
  by_cases h0 : 0 ≤ l
  · have : l * 1 ≤ l * q := Int.mul_le_mul_of_nonneg_left h h0
    omega
  · have : (l + 1) * q ≤ (l + 1) * 1 := Int.mul_le_mul_of_nonpos_left (by omega) h
    omega
theorem sgn3_bd (a b : Int) : Bd 2 (sgn3 a b) := by unfold sgn3 Bd; split <;> split <;> decide
theorem bin_no {x y : V} {p q r s : Int} {C : V → Prop} (i1 : IsNum p q) (i2 : IsNum r s) : ∀ z, fb [x, y] [.tuple [.int p, .int q], .tuple [.int r, .int s]] = some z → C z := fun z e => by
  rw [fb_nums i1 i2] at e
  cases e
theorem bin_yes {p q r s : Int} {X : Int → Int → Int → Int → Prop} (b1 : Bd 4000 p) (b2 : Bd 4000 q) (b3 : Bd 4000 r) (b4 : Bd 4000 s) (h : X p q r s) :
    ∀ p' q' r' s', PyData.tuple [.int p, .int q] = .tuple [.int p', .int q'] → PyData.tuple [.int r, .int s] = .tuple [.int r', .int s'] → IsNum p' q' → IsNum r' s' → Bd 4000 p' ∧ Bd 4000 q' ∧ Bd 4000 r' ∧ Bd 4000 s' ∧ X p' q' r' s' := fun p' q' r' s' e1 e2 _ _ => by
  cases e1
  cases e2
  exact ⟨b1, b2, b3, b4, h⟩
theorem floor_no {p q : Int} {C : Prop} (i : IsNum p q) : isNumD (.tuple [.int p, .int q]) = false → C := fun z => absurd (isNumD_is i) (by rw [z]; simp)
theorem floor_yes {p q : Int} {X : Int → Int → Prop} (b : Bd 9000 q) (h : X p q) : ∀ p' q', PyData.tuple [.int p, .int q] = .tuple [.int p', .int q'] → IsNum p' q' → Bd 9000 q' ∧ X p' q' := fun p' q' e _ => by
  cases e
  exact ⟨b, h⟩
end Rm
/-! Numbers with bounds, and their texts. -/
namespace Rm
open PySem PySem.W PySem.Calls PyProof.Rows PySem.Spec L2
def isPosD : PyData → Bool
  | .tuple [.int a, .int b] => decide (IsNum a b) && decide (0 < a)
  | _ => false
def hasPartsD (d : PyData) (m n : Int) : Bool := match d with
  | .tuple [.int a, .int b] => decide (IsNum a b) && decide (0 < a) && decide (a ≤ m) && decide (b ≤ n)
  | _ => false
def isPaceD (d : PyData) : Bool := match d with
  | .tuple [.int a, .int b] => hasPartsD (.tuple [.int a, .int b]) 60 60 || (decide (IsNum a b) && decide (a = 0))
  | _ => false
theorem isPosD_no {d : PyData} (h : isNumD d = false) : isPosD d = false := by
  unfold isPosD
  split
  · have h3 : decide (IsNum _ _) = false := h
    rw [h3]
    rfl
  · rfl
theorem isPosD_is {a b : Int} (i : IsNum a b) : isPosD (.tuple [.int a, .int b]) = decide (0 < a) := by
  show (decide (IsNum a b) && decide (0 < a)) = _
  rw [decide_eq_true i, Bool.true_and]
theorem hasPartsD_no {d : PyData} {m n : Int} (h : isPosD d = false) : hasPartsD d m n = false := by
  unfold hasPartsD
  split
  · rename_i a b
    have h3 : (decide (IsNum a b) && decide (0 < a)) = false := h
    rw [h3]
    rfl
  · rfl
theorem hasPartsD_is {a b m n : Int} (i : IsNum a b) : hasPartsD (.tuple [.int a, .int b]) m n = (decide (0 < a) && decide (a ≤ m) && decide (b ≤ n)) := by
  show (decide (IsNum a b) && decide (0 < a) && decide (a ≤ m) && decide (b ≤ n)) = _
  rw [decide_eq_true i, Bool.true_and]
theorem isPaceD_no {d : PyData} (h : isNumD d = false) : isPaceD d = false := by
  have h2 := hasPartsD_no (m := 60) (n := 60) (isPosD_no h)
  unfold isPaceD
  split
  · have h3 : decide (IsNum _ _) = false := h
    rw [h3, h2]
    rfl
  · rfl
theorem isPaceD_is {a b : Int} (i : IsNum a b) : isPaceD (.tuple [.int a, .int b]) = (hasPartsD (.tuple [.int a, .int b]) 60 60 || decide (a = 0)) := by
  show (_ || (decide (IsNum a b) && decide (a = 0))) = _
  rw [decide_eq_true i, Bool.true_and]
theorem isPosD_inv {d : PyData} (h : isPosD d = true) : ∃ p q, d = .tuple [.int p, .int q] ∧ IsNum p q ∧ 0 < p := by
  unfold isPosD at h
  split at h
  · exact ⟨_, _, rfl, of_decide_eq_true (Bool.and_eq_true_iff.mp h).1, of_decide_eq_true (Bool.and_eq_true_iff.mp h).2⟩
  · cases h
theorem hasPartsD_1 {a b m n : Int} (i : IsNum a b) (h : 0 < a) (h1 : decide (a ≤ m) = true) : hasPartsD (.tuple [.int a, .int b]) m n = decide (b ≤ n) := by
  rw [hasPartsD_is i, decide_eq_true h, h1, Bool.true_and, Bool.true_and]
theorem hasPartsD_0 {a b m n : Int} (i : IsNum a b) (h : 0 < a) (h1 : decide (a ≤ m) = false) : hasPartsD (.tuple [.int a, .int b]) m n = false := by
  rw [hasPartsD_is i, decide_eq_true h, h1, Bool.true_and, Bool.false_and]
def spIsPos (K : Frag) : Sp := sp1 fun x H Q _ => ∃ d, Dp K H x d ∧ ∀ H', Ex H H' → Q (.bl (isPosD d)) H'
def spParts (K : Frag) : Sp := sp3 fun x y z H Q _ => ∃ d m n, Dp K H x d ∧ y = .int m ∧ z = .int n ∧ ∀ H', Ex H H' → Q (.bl (hasPartsD d m n)) H'
def spFactor (K : Frag) : Sp := sp1 fun x H Q _ => ∃ d, Dp K H x d ∧ ∀ H', Ex H H' → Q (.bl (hasPartsD d 60 60)) H'
def spLength (K : Frag) : Sp := sp1 fun x H Q _ => ∃ d, Dp K H x d ∧ ∀ H', Ex H H' → Q (.bl (hasPartsD d 999999 999)) H'
/-- thing is compared with ZERO: it must be data that == takes -/
def spPace (K : Frag) : Sp := sp1 fun x H Q _ => ∃ d, Dp K H x d ∧ ∀ H', Ex H H' → Q (.bl (isPaceD d)) H'
/-- the text of a number -/
def ntext (a b : Int) : Str := if b = 1 then (toString a : String) else Str.empty ++ (toString a : String) ++ ("/" : Str) ++ (toString b : String)
def spNumText (K : Frag) (C : Addr) : Sp := sp1 fun x H Q E => ∃ dx, Dp K H x dx ∧ (isNumD dx = false → RErr H E C "thing" x) ∧
  (∀ p q, dx = .tuple [.int p, .int q] → IsNum p q → p.natAbs.log2 < 1920 ∧ q.natAbs.log2 < 1920 ∧ ∀ H', Ex H H' → Q (.str (ntext p q)) H')
theorem eqv_zero {a b : Int} (i : IsNum a b) : PyData.eqv (.tuple [.int a, .int b]) (.tuple [.int 0, .int 1]) = decide (a = 0) := by
  rw [eqv_num]
  by_cases h : a = 0
  · have h1 := i.2
    have h2 := i.1
    subst h
    have : b = 1 := by
      unfold Int.gcd at h1
      simp at h1
      omega
    subst this
    rfl
  · rw [decide_eq_false h, Bool.false_and]
theorem int_len {i : Int} (h : i.natAbs.log2 < 1920) : (Str.ofString (toString i)).length ≤ 1921 := int_text_len_1921 h
theorem ntext_len {a b : Int} (h1 : a.natAbs.log2 < 1920) (h2 : b.natAbs.log2 < 1920) : (ntext a b).length ≤ 4000 := by
  have e1 := int_len h1
  have e2 := int_len h2
  have e3 : Str.empty.length = 0 := rfl
  have e4 : (Str.ofString "/").length = 1 := by decide
  unfold ntext
  split
  · omega
  · rw [Str.length_append, Str.length_append, Str.length_append]
    omega
theorem lst_inv {K : Frag} {H : Hp} {a : Addr} {ds : List PyData} (h : Dp K H (.ref a) (.list ds)) : ∃ vs, SqL K H a vs ∧ DpAll K H vs ds := by
  cases h with
  | lst a b => exact ⟨_, a, b⟩
theorem Gd.all {k m : Nat} : ∀ {ds : List PyData}, (∀ d ∈ ds, Gd k m d) → PyData.showableAll ds = true ∧ PyData.hasDictAll ds = false ∧ PyData.depthAll ds ≤ k ∧ wtAll ds ≤ ds.length * (m + 2)
  | [], _ => ⟨rfl, rfl, Nat.zero_le _, Nat.zero_le _⟩
  | d :: ds, h => by
    obtain ⟨h1, h2, h3, h4⟩ := Gd.all (ds := ds) (fun x hx => h x (List.mem_cons_of_mem _ hx))
    have g := h d List.mem_cons_self
    have gp := g.p
    have gw := g.w
    refine ⟨?_, ?_, ?_, ?_⟩
    · simp [PyData.showableAll, g.s, h1]
    · simp [PyData.hasDictAll, g.n, h2]
    · simp only [PyData.depthAll]; omega
    · simp only [wtAll, List.length_cons, Nat.add_mul]; omega
theorem Gd.tup {k m : Nat} {ds : List PyData} (h : ∀ d ∈ ds, Gd k m d) : Gd (k + 1) (ds.length * (m + 2) + 3) (.tuple ds) := by
  obtain ⟨h1, h2, h3, h4⟩ := Gd.all h
  exact ⟨h1, h2, by simp only [PyData.depth]; omega, by simp only [wt]; omega⟩
theorem Gd.lst {k m : Nat} {ds : List PyData} (h : ∀ d ∈ ds, Gd k m d) : Gd (k + 1) (ds.length * (m + 2) + 3) (.list ds) := by
  obtain ⟨h1, h2, h3, h4⟩ := Gd.all h
  exact ⟨h1, h2, by simp only [PyData.depth]; omega, by simp only [wt]; omega⟩
theorem Gd.bool {b : Bool} : Gd 0 5 (.bool b) := ⟨rfl, rfl, Nat.le_refl _, Nat.le_refl _⟩
theorem Gd.non : Gd 0 4 .none := ⟨rfl, rfl, Nat.le_refl _, Nat.le_refl _⟩
theorem Gd.str {x : Str} {m : Nat} (h : (reprText x).length ≤ m) : Gd 0 m (.str x) := ⟨rfl, rfl, Nat.le_refl _, h⟩
theorem DpAll.app {K : Frag} {H : Hp} : ∀ {vs ws : List V} {ds es : List PyData}, DpAll K H vs ds → DpAll K H ws es → DpAll K H (vs ++ ws) (ds ++ es)
  | [], _, [], _, .nil, h => h
  | _ :: _, _, _ :: _, _, .cons a b, h => .cons a (DpAll.app b h)
theorem Gd.num_log {k m : Nat} {p q : Int} (g : Gd k m (.tuple [.int p, .int q])) : p.natAbs.log2 < 1920 ∧ q.natAbs.log2 < 1920 := by
  have h := g.s
  simp only [PyData.showable, PyData.showableAll, Bool.and_true, Bool.and_eq_true, decide_eq_true_eq] at h
  exact h
def quotD (dx dy : PyData) : PyData := match dx, dy with
  | .int a, .int b => if b = 0 then .list [.str "number", .tuple [.int a, .int b]] else .list [.str "made", .tuple [.int (red a b).1, .int (red a b).2]]
  | dx, dy => .list [.str "number", .tuple [dx, dy]]
theorem quotD_no {dx dy : PyData} (h : ∀ a b, dx = .int a → dy = .int b → b = 0) : quotD dx dy = .list [.str "number", .tuple [dx, dy]] := by
  unfold quotD
  split
  · rw [if_pos (h _ _ rfl rfl)]
  · rfl
theorem quotD_is {a b : Int} (h : b ≠ 0) : quotD (.int a) (.int b) = .list [.str "made", .tuple [.int (red a b).1, .int (red a b).2]] := if_neg h
end Rm
namespace Rm
open PySem PySem.W PySem.Calls PyProof.Rows PySem.Spec L2
theorem strOk_of (s : String) : PyData.strOk (Str.ofString s) = true := by
  rw [Str.ofString_eq_toList]
  unfold PyData.strOk
  simp only [List.all_toArray, List.all_map, List.all_eq_true, Function.comp, decide_eq_true_eq]
  intro c _
  have h : c.val.toNat < 0xd800 ∨ (0xdfff < c.val.toNat ∧ c.val.toNat < 0x110000) := c.valid
  show c.val.toNat < 0x110000
  omega
theorem strOk_app {x y : Str} (h : PyData.strOk x = true) (k : PyData.strOk y = true) : PyData.strOk (x ++ y) = true := by
  unfold PyData.strOk at *
  show (x.cps ++ y.cps).all _ = true
  rw [Array.all_append, h, k]
  rfl
theorem strOk_num (a b : Int) : PyData.strOk (ntext a b) = true := by
  unfold ntext
  split
  · exact strOk_of _
  · exact strOk_app (strOk_app (strOk_app (by unfold PyData.strOk Str.empty; simp) (strOk_of _)) (strOk_of _)) (strOk_of _)
theorem shaped_ss {x y : Str} (h : PyData.strOk x = true) (k : PyData.strOk y = true) : SeqAt.shaped (.list [.str x, .str y]) = true := by
  simp [SeqAt.shaped, PyData.canLay0, PyData.canLayAll0, PyData.depth, PyData.depthAll, h, k]
theorem empty_app (x : Str) : Str.empty ++ x = x := by
  show (⟨Str.empty.cps ++ x.cps⟩ : Str) = x
  cases x
  simp [Str.empty]
theorem bd_of_log {n : Nat} {i : Int} (h : i.natAbs.log2 < n) : Bd n i := by
  unfold Bd
  by_cases h0 : i.natAbs = 0
  · rw [h0]; exact Nat.two_pow_pos n
  · exact (Nat.log2_lt h0).mp h
theorem quot_gd {dx dy : PyData} (g1 : Gd 1 4000 dx) (g2 : Gd 1 4000 dy) : Gd 100 16000000 (quotD dx dy) := by
  by_cases h : ∀ a b, dx = .int a → dy = .int b → b = 0
  · rw [quotD_no h]
    exact (Gd.number (by decide) (Gd.pair g1 g2)).mono (by decide) (by decide)
  · have ⟨a, b, e1, e2, hb⟩ : ∃ a b, dx = .int a ∧ dy = .int b ∧ b ≠ 0 := by
      apply Classical.byContradiction
      intro hn
      exact h fun a b e1 e2 => Classical.byContradiction fun hb => hn ⟨a, b, e1, e2, hb⟩
    subst e1 e2
    rw [quotD_is hb]
    have lg : ∀ {i : Int}, PyData.showable (.int i) = true → i.natAbs.log2 < 1920 := fun h => by simpa [PyData.showable] using h
    have k1 : Gd 0 1921 (.int (red a b).1) := ⟨by simp only [PyData.showable, decide_eq_true_eq]; exact PySem.Flt.log2_lt_of (by decide) ((bd_of_log (lg g1.s)).red1 hb), rfl, Nat.le_refl _, Nat.le_refl _⟩
    have k2 : Gd 0 1921 (.int (red a b).2) := ⟨by simp only [PyData.showable, decide_eq_true_eq]; exact PySem.Flt.log2_lt_of (by decide) ((bd_of_log (lg g2.s)).red2 hb), rfl, Nat.le_refl _, Nat.le_refl _⟩
    exact (Gd.two (k := 1) (m := 4000) (Gd.mono (k := 0) (m := 20) ⟨rfl, rfl, Nat.le_refl _, by decide +kernel⟩ (by decide) (by decide)) ((Gd.pair k1 k2).mono (by decide) (by decide))).mono (by decide) (by decide)
theorem SqL_new {K : Frag} {H : Hp} {p : Addr} {vs : List V} (h : H p = none) : SqL K (upd H p (.lst vs)) p vs := SqL.of upd_same
def rTx : List V → Hp → VK → Prop := fun xs H Q => ∃ i : Int, xs = [.int i] ∧ i.natAbs.log2 < 1920 ∧ Q (.str (Str.ofString (toString i))) H
def rAs : R2 := fun x y H Q => ∃ i j, x = .str i ∧ y = .str j ∧ i.length + j.length ≤ sizeLine ∧ Q (.str (i ++ j)) H
theorem text_in {K : Frag} {σ : L2.St} {H : Hp} {Q : VK} {a : Addr} {p q : Int} {n : Nat} (h : σ[n]? = some (some (.ref a))) (ha : SqT K H a [.int p, .int q]) (l1 : p.natAbs.log2 < 1920) (l2 : q.natAbs.log2 < 1920) (hQ : Q (.str (ntext p q)) H) :
    tIf (tTest (tOp rEq (tOp (rIxT K) (tVar n) (tC (.int 1))) (tC (.int 1)))) (tCB rTx (tCons (tOp (rIxT K) (tVar n) (tC (.int 0))) tNil))
      (tOp rAs (tOp rAs (tCB rTx (tCons (tOp (rIxT K) (tVar n) (tC (.int 0))) tNil)) (tC (.str "/"))) (tCB rTx (tCons (tOp (rIxT K) (tVar n) (tC (.int 1))) tNil))) σ H Q := by
  refine ⟨_, h, _, _, _, _, rfl, rfl, ha, rfl, rfl, _, rfl, iteB (fun c => ?_) (fun c => ?_)⟩
  · have h1 : q = 1 := V.int.inj (of_decide_eq_true c)
    have et : ntext p q = Str.ofString (toString p) := if_pos h1
    rw [et] at hQ
    exact ⟨_, h, _, _, _, _, rfl, rfl, ha, rfl, _, rfl, l1, hQ⟩
  · have h1 : ¬ q = 1 := fun z => of_decide_eq_false c (by rw [z])
    have et : ntext p q = Str.empty ++ Str.ofString (toString p) ++ Str.ofString "/" ++ Str.ofString (toString q) := if_neg h1
    rw [et, empty_app] at hQ
    have e1 := int_len l1
    have e2 := int_len l2
    have e4 : (Str.ofString "/").length = 1 := by decide
    exact ⟨_, h, _, _, _, _, rfl, rfl, ha, rfl, _, rfl, l1, _, _, rfl, rfl, by rw [sizeLine_eq]; omega, _, h, _, _, _, _, rfl, rfl, ha, rfl, _, rfl, l2, _, _, rfl, rfl, by rw [Str.length_append, sizeLine_eq]; omega, hQ⟩
theorem tup2_inv {K : Frag} {H : Hp} {t : Addr} {d1 d2 : PyData} (h : Dp K H (.ref t) (.tuple [d1, d2])) : ∃ u v, SqT K H t [u, v] ∧ Dp K H u d1 ∧ Dp K H v d2 := by
  cases h with
  | tup a b =>
    cases b with
    | cons h1 b =>
      cases b with
      | cons h2 b =>
        cases b
        exact ⟨_, _, a, h1, h2⟩
end Rm
/-! first, *rest = a tuple. -/
namespace Rm
open PySem PySem.W PySem.Calls PyProof.Rows PySem.Spec L2
section
variable {prog : Program} {w : World} {A : Around} {E : Value → Shared → Prop} {s : Shared}
/-- one in front, the others into a new list -/
theorem head_rest {l : Addr} {x : Value} {r : List Value} {Q : List Value → Shared → Prop} (hl : IsTup s.heap l (x :: r).toArray) (hh : A.handled = none) (hz : r.length ≤ 1000)
    (h : ∀ (h₂ : Heap) (tk : Nat), (∀ b o, s.heap.get? b = some o → h₂.get? b = some o) → Q [x, .ref h₂.objs.size] { s with heap := h₂.push { cls := .type "list", data := .seq r.toArray }, toks := tk }) :
    wpAny (model prog w) A (unpackItems (.ref l) 2 (some 1)) Q E s := by
  obtain ⟨o, ho, hc⟩ := id hl
  have lt : l < s.heap.objs.size := Heap.lt_size ho
  have ne : l ≠ s.heap.objs.size := Nat.ne_of_lt lt
  have sz : (x :: r).toArray.size = r.length + 1 := by simp
  have tl : (x :: r).toArray.toList.drop 1 = r := rfl
  have zl := sizeLine_eq
  unfold unpackItems notIterableAtAll
  refine wpAny_bind (wpAny_bind (wpAny_specialOf hl.typeIs slot_tuple_iter.lookup (wpAny_pure ?_)))
  simp only [Bool.false_eq_true, if_false]
  refine wpAny_bind (wpAny_holding (iter_tuple hl (wpAny_bind (wpAny_holding (draw_tuple ne 1 0 _ _ ⟨_, Heap.get?_push_size _ rfl, rfl, rfl⟩ (hl.push _) (by omega) fun h₁ hi k₁ => ?_)))))
  have lt₁ : IsTup h₁ l (x :: r).toArray := (hl.push _).extBut k₁.extBut ne
  obtain ⟨oi, eoi, _⟩ := id hi
  obtain ⟨ol, eol, _⟩ := id lt₁
  show wpAny _ _ (if [x].length < 1 then _ else _) _ _ _
  rw [if_neg (by simp)]
  refine wpAny_bind (wpAny_holding (kun_collect (s := { s with heap := h₁ }) (T := "tuple_iterator") (.inr (.inr (.inr rfl))) (Walks.tuple (A := A.in1) hh s.heap.objs.size l ne (x :: r).toArray) (fun j u st => st.1.typeIs) (k := 1) (by omega) ⟨hi, lt₁⟩ (Heap.lt_size eoi) (Heap.lt_size eol) (fun h₂ tk k₂ => ?_) (by rw [sz]; omega)))
  rw [tl]
  show wpAny _ _ (if r.length < 2 - 1 - 1 then _ else _) _ _ _
  rw [if_neg (by omega)]
  show wpAny _ _ (newList (r.take (r.length - (2 - 1 - 1))) >>= fun d => pure ([x] ++ [d] ++ r.drop (r.length - (2 - 1 - 1)))) _ _ _
  have e0 : r.length - (2 - 1 - 1) = r.length := by omega
  rw [e0, List.take_length, List.drop_length]
  have kp : ∀ b u, s.heap.get? b = some u → h₂.get? b = some u := fun b u e => by
    have nb : b ≠ s.heap.objs.size := Nat.ne_of_lt (Heap.lt_size e)
    exact k₂ b u nb (k₁.extBut b u nb (Heap.get?_push_of_some _ e))
  exact wpAny_bind (wpAny_newList (s := { s with heap := h₂, toks := tk }) (wpAny_pure (h h₂ tk kp)) (by omega))
end
section
variable {X : Cx}
theorem pgs_star {e : Expr} {es : List Expr} {t : TG} {u : TGs} {p : Pos} (h1 : PG X e t) (h2 : PGs X es u)
    (hs : (assignEach (.Starred e p :: es) X.env).map (·.2) = assign e X.env :: (assignEach es X.env).map (·.2) := by rfl) : PGs X (.Starred e p :: es) (gCons t u) := by
  refine ⟨fun pins s σ H vs us Q I r h => ?_⟩
  obtain ⟨v, vr, rfl, h⟩ := h
  cases r with
  | cons r rr =>
    rw [hs]
    exact assignInOrder_cons (thn (h1.run pins s σ H _ _ _ I r h) fun _ s1 ⟨σ1, H1, I1, q1⟩ => h2.run pins s1 σ1 H1 _ _ Q I1 rr q1)
/-- a, *b = t -/
def gStar (K : Frag) (t : TGs) : TG := fun v σ H Q => ∃ a x xs, v = .ref a ∧ SqT K H a (x :: xs) ∧ xs.length ≤ 1000 ∧ ∀ D, H D = none → t [x, .ref D] σ (upd H D (.lst xs)) Q
theorem pg_star {es : List Expr} {k : Nat} {t : TGs} {pos : Pos} (hc : X.calm = true) (h : PGs X es t)
    (hn : (assignEach es X.env).length = 2 := by rfl) (hst : (assignEach es X.env).findIdx? (·.1) = some 1 := by rfl) : PG X (.Tuple es k pos) (gStar X.K t) := by
  refine ⟨fun pins s σ H v u Q I r hw => ?_⟩
  obtain ⟨a, x, xs, rfl, hq, hl, hw⟩ := hw
  cases r
  obtain ⟨its, rv, ht, hz⟩ := I.tuple hq
  cases rv with
  | @cons _ y _ ys r1 rr =>
    rw [assign_Tuple]
    refine wpAny_bind (wpAny_standAt ?_)
    unfold unpack
    rw [hn, hst]
    have hl' : ys.length ≤ 1000 := by rw [← rr.length]; exact hl
    refine wpAny_bind (wpAny_holding (head_rest ht (I.ok.hd hc) hl' fun h₂ tk kp => ?_))
    have I2 : Inv X pins σ H { s with heap := h₂, toks := tk } := I.kept (t' := tk) kp
    exact h.run pins _ σ _ [x, .ref h₂.objs.size] _ Q (I2.lnew (t' := tk) rr (by rw [sizeLine_eq]; omega)) (.cons r1 (.cons rfl .nil)) (hw _ I2.fresh)
end
end Rm
/-! Plain law: measures and multiples over a common denominator. -/
namespace Rm
/-- p/q is a/N -/
structure On (N : Nat) (x : Int × Int) (a : Nat) : Prop where
  i : IsNum x.1 x.2
  n : 0 < N
  ap : 0 < a
  e : x.1 * (N : Int) = (a : Int) * x.2
section
variable {N : Nat} {x y : Int × Int} {a b : Nat}
theorem On.q (h : On N x a) : (0 : Int) < x.2 := h.i.1
theorem On.p (h : On N x a) : (0 : Int) < x.1 := by
  have h1 : (0 : Int) < (a : Int) * x.2 := Int.mul_pos (by have := h.ap; omega) h.q
  rw [← h.e] at h1
  exact Int.pos_of_mul_pos_left h1 (by have := h.n; omega)
theorem mulC {u v w : Int} (hw : w ≠ 0) (h : u * w = v * w) : u = v := Int.eq_of_mul_eq_mul_right hw h
theorem On.ext (h : On N x a) (k : On N y a) : x = y := by
  have hn : (N : Int) ≠ 0 := by have := h.n; omega
  have e : x.1 * y.2 = y.1 * x.2 := by
    refine mulC hn ?_
    have h1 := h.e
    have h2 := k.e
    grind
  obtain ⟨e1, e2⟩ := num_ext h.i k.i e
  exact Prod.ext e1 e2
theorem On.of_red {A B : Int} (hB : 0 < B) (n : 0 < N) (ha : 0 < a) (e : A * (N : Int) = (a : Int) * B) : On N (red A B) a := by
  have hB0 : B ≠ 0 := by omega
  refine ⟨red_num hB0, n, ha, mulC hB0 ?_⟩
  have c := red_cross (a := A) hB0
  grind
def meas (x y : Int × Int) : Int × Int := red (Int.gcd (x.1 * y.2) (y.1 * x.2) : Nat) (x.2 * y.2)
def lmul (x y : Int × Int) : Int × Int := red ((red (x.1 * y.1) (x.2 * y.2)).1 * (meas x y).2) ((red (x.1 * y.1) (x.2 * y.2)).2 * (meas x y).1)
theorem On.meas (h : On N x a) (k : On N y b) : On N (meas x y) (Nat.gcd a b) := by
  refine On.of_red (Int.mul_pos h.q k.q) h.n (Nat.gcd_pos_of_pos_left _ h.ap) ?_
  have h1 := h.e
  have h2 := k.e
  have hq := h.q
  have kq := k.q
  have e1 : x.1 * y.2 * (N : Int) = (a : Int) * (x.2 * y.2) := by grind
  have e2 : y.1 * x.2 * (N : Int) = (b : Int) * (x.2 * y.2) := by grind
  have m1 : Int.gcd (x.1 * y.2) (y.1 * x.2) * N = Int.gcd (x.1 * y.2 * (N : Int)) (y.1 * x.2 * (N : Int)) := by
    rw [Int.gcd_mul_right]
    simp
  have m2 : Int.gcd ((a : Int) * (x.2 * y.2)) (b * (x.2 * y.2)) = Nat.gcd a b * (x.2 * y.2).natAbs := by
    rw [Int.gcd_mul_right]
    simp
  have hpos : (0 : Int) < x.2 * y.2 := Int.mul_pos hq kq
  have m3 : Int.gcd (x.1 * y.2) (y.1 * x.2) * N = Nat.gcd a b * (x.2 * y.2).natAbs := by rw [m1, e1, e2, m2]
  have m4 : ((Int.gcd (x.1 * y.2) (y.1 * x.2) * N : Nat) : Int) = ((Nat.gcd a b * (x.2 * y.2).natAbs : Nat) : Int) := by rw [m3]
  rw [Int.natCast_mul, Int.natCast_mul] at m4
  rw [m4]
  congr 1
  omega
theorem On.lmul (h : On N x a) (k : On N y b) : On N (lmul x y) (Nat.lcm a b) := by
  have m := h.meas k
  have t0 : x.2 * y.2 ≠ 0 := Int.ne_of_gt (Int.mul_pos h.q k.q)
  have tn := red_num (a := x.1 * y.1) t0
  have tc := red_cross (a := x.1 * y.1) t0
  have lp : 0 < Nat.lcm a b := Nat.lcm_pos h.ap k.ap
  refine On.of_red (Int.mul_pos tn.1 m.p) h.n lp ?_
  have h1 := h.e
  have h2 := k.e
  have h3 := m.e
  have gl : (Nat.gcd a b : Int) * Nat.lcm a b = (a : Int) * b := by
    have := Nat.gcd_mul_lcm a b
    rw [← Int.natCast_mul, this, Int.natCast_mul]
  generalize red (x.1 * y.1) (x.2 * y.2) = t at *
  generalize Rm.meas x y = m' at *
  have hn : (N : Int) ≠ 0 := by have := h.n; omega
  have hg : (Nat.gcd a b : Int) ≠ 0 := by have := Nat.gcd_pos_of_pos_left b h.ap; omega
  have hm : m'.2 ≠ 0 := Int.ne_of_gt m.q
  -- t.1 * q s = p r t.2 ; both sides by N and by q s
  refine mulC hn (mulC t0 ?_)
  have s1 : t.1 * (x.2 * y.2) * ((N : Int) * N) = x.1 * N * (y.1 * N) * t.2 := by grind
  have s2 : t.1 * (x.2 * y.2) * ((N : Int) * N) = (a : Int) * b * (x.2 * y.2) * t.2 := by rw [s1, h1, h2]; grind
  have s3 : t.1 * ((N : Int) * N) = (a : Int) * b * t.2 := mulC t0 (by grind)
  grind
end
inductive OnL (N : Nat) : List (Int × Int) → List Nat → Prop where
  | nil : OnL N [] []
  | cons {x : Int × Int} {a : Nat} {xs : List (Int × Int)} {as : List Nat} (h : On N x a) (r : OnL N xs as) : OnL N (x :: xs) (a :: as)
section
variable {N : Nat} {x y : Int × Int} {a b : Nat} {xs ys : List (Int × Int)} {as bs : List Nat}
theorem OnL.meas (r : OnL N xs as) : ∀ {x : Int × Int} {a : Nat}, On N x a → On N (xs.foldl Rm.meas x) (as.foldl Nat.gcd a) := by
  induction r with
  | nil => intro x a h; exact h
  | cons h r ih => intro x a k; exact ih (k.meas h)
theorem OnL.lmul (r : OnL N xs as) : ∀ {x : Int × Int} {a : Nat}, On N x a → On N (xs.foldl Rm.lmul x) (as.foldl Nat.lcm a) := by
  induction r with
  | nil => intro x a h; exact h
  | cons h r ih => intro x a k; exact ih (k.lmul h)
theorem On.scale (h : On N x a) {k : Nat} (hk : 0 < k) : On (k * N) x (k * a) :=
  ⟨h.i, Nat.mul_pos hk h.n, Nat.mul_pos hk h.ap, by have := h.e; rw [Int.natCast_mul, Int.natCast_mul]; grind⟩
theorem OnL.scale (r : OnL N xs as) {k : Nat} (hk : 0 < k) : OnL (k * N) xs (as.map (k * ·)) := by
  induction r with
  | nil => exact .nil
  | cons h r ih => exact .cons (h.scale hk) ih
theorem OnL.some : ∀ xs : List (Int × Int), (∀ x ∈ xs, IsNum x.1 x.2 ∧ 0 < x.1) → ∃ N as, 0 < N ∧ OnL N xs as
  | [], _ => ⟨1, [], by decide, .nil⟩
  | x :: xs, h => by
    obtain ⟨N, as, hn, r⟩ := OnL.some xs fun y hy => h y (List.mem_cons_of_mem _ hy)
    obtain ⟨i, hp⟩ := h x List.mem_cons_self
    have hq : 0 < x.2.toNat := by have := i.1; omega
    have e1 : ((x.2.toNat : Nat) : Int) = x.2 := Int.toNat_of_nonneg (by have := i.1; omega)
    have e2 : ((x.1.toNat : Nat) : Int) = x.1 := Int.toNat_of_nonneg (by omega)
    refine ⟨x.2.toNat * N, x.1.toNat * N :: as.map (x.2.toNat * ·), Nat.mul_pos hq hn, .cons ⟨i, Nat.mul_pos hq hn, Nat.mul_pos (by omega) hn, ?_⟩ (r.scale hq)⟩
    rw [Int.natCast_mul, Int.natCast_mul, e1, e2]
    grind
theorem OnL.mem (r : OnL N xs as) (h : x ∈ xs) : ∃ a ∈ as, On N x a := by
  induction r with
  | nil => cases h
  | cons k r ih =>
    rcases List.mem_cons.mp h with rfl | h
    · exact ⟨_, List.mem_cons_self, k⟩
    · obtain ⟨a, h1, h2⟩ := ih h
      exact ⟨a, List.mem_cons_of_mem _ h1, h2⟩
/-! whole numbers -/
theorem gcdF_dvd : ∀ (as : List Nat) (a b : Nat), b ∈ a :: as → as.foldl Nat.gcd a ∣ b
  | [], a, b, h => by simp at h; subst h; exact Nat.dvd_refl _
  | c :: as, a, b, h => by
    have k := gcdF_dvd as (Nat.gcd a c) (Nat.gcd a c) List.mem_cons_self
    rcases List.mem_cons.mp h with rfl | h
    · exact Nat.dvd_trans k (Nat.gcd_dvd_left _ _)
    · rcases List.mem_cons.mp h with rfl | h
      · exact Nat.dvd_trans k (Nat.gcd_dvd_right _ _)
      · exact gcdF_dvd as _ _ (List.mem_cons_of_mem _ h)
theorem dvd_gcdF : ∀ (as : List Nat) (a d : Nat), (∀ b ∈ a :: as, d ∣ b) → d ∣ as.foldl Nat.gcd a
  | [], a, d, h => h a List.mem_cons_self
  | c :: as, a, d, h => dvd_gcdF as _ d fun b hb => by
    rcases List.mem_cons.mp hb with rfl | hb
    · exact Nat.dvd_gcd (h a List.mem_cons_self) (h c (List.mem_cons_of_mem _ List.mem_cons_self))
    · exact h b (List.mem_cons_of_mem _ (List.mem_cons_of_mem _ hb))
theorem dvd_lcmF : ∀ (as : List Nat) (a b : Nat), b ∈ a :: as → b ∣ as.foldl Nat.lcm a
  | [], a, b, h => by simp at h; subst h; exact Nat.dvd_refl _
  | c :: as, a, b, h => by
    have k := dvd_lcmF as (Nat.lcm a c) (Nat.lcm a c) List.mem_cons_self
    rcases List.mem_cons.mp h with rfl | h
    · exact Nat.dvd_trans (Nat.dvd_lcm_left _ _) k
    · rcases List.mem_cons.mp h with rfl | h
      · exact Nat.dvd_trans (Nat.dvd_lcm_right _ _) k
      · exact dvd_lcmF as _ _ (List.mem_cons_of_mem _ h)
theorem lcmF_dvd : ∀ (as : List Nat) (a d : Nat), (∀ b ∈ a :: as, b ∣ d) → as.foldl Nat.lcm a ∣ d
  | [], a, d, h => h a List.mem_cons_self
  | c :: as, a, d, h => lcmF_dvd as _ d fun b hb => by
    rcases List.mem_cons.mp hb with rfl | hb
    · exact Nat.lcm_dvd (h a List.mem_cons_self) (h c (List.mem_cons_of_mem _ List.mem_cons_self))
    · exact h b (List.mem_cons_of_mem _ (List.mem_cons_of_mem _ hb))
theorem gcdF_same (h : ∀ c, c ∈ a :: as ↔ c ∈ b :: bs) : as.foldl Nat.gcd a = bs.foldl Nat.gcd b :=
  Nat.dvd_antisymm (dvd_gcdF _ _ _ fun c hc => gcdF_dvd _ _ _ ((h c).mpr hc)) (dvd_gcdF _ _ _ fun c hc => gcdF_dvd _ _ _ ((h c).mp hc))
theorem lcmF_same (h : ∀ c, c ∈ a :: as ↔ c ∈ b :: bs) : as.foldl Nat.lcm a = bs.foldl Nat.lcm b :=
  Nat.dvd_antisymm (lcmF_dvd _ _ _ fun c hc => dvd_lcmF _ _ _ ((h c).mp hc)) (lcmF_dvd _ _ _ fun c hc => dvd_lcmF _ _ _ ((h c).mpr hc))
theorem gcdF_mul (k : Nat) : ∀ (as : List Nat) (a : Nat), (as.map (k * ·)).foldl Nat.gcd (k * a) = k * as.foldl Nat.gcd a
  | [], _ => rfl
  | c :: as, a => by
    show (as.map (k * ·)).foldl Nat.gcd (Nat.gcd (k * a) (k * c)) = _
    rw [Nat.gcd_mul_left]
    exact gcdF_mul k as _
theorem lcmF_mul (k : Nat) : ∀ (as : List Nat) (a : Nat), (as.map (k * ·)).foldl Nat.lcm (k * a) = k * as.foldl Nat.lcm a
  | [], _ => rfl
  | c :: as, a => by
    show (as.map (k * ·)).foldl Nat.lcm (Nat.lcm (k * a) (k * c)) = _
    rw [Nat.lcm_mul_left]
    exact lcmF_mul k as _
/-- the law's own way: from 0, the new one in front -/
def gcdR (qs : List Nat) : Nat := qs.foldl (fun f a => Nat.gcd a f) 0
theorem gcdR_dvd : ∀ (qs : List Nat) (f q : Nat), (q = f ∨ q ∈ qs) → qs.foldl (fun f a => Nat.gcd a f) f ∣ q
  | [], f, q, h => by
    rcases h with rfl | h
    · exact Nat.dvd_refl _
    · cases h
  | c :: qs, f, q, h => by
    have k := gcdR_dvd qs (Nat.gcd c f) (Nat.gcd c f) (.inl rfl)
    rcases h with rfl | h
    · exact Nat.dvd_trans k (Nat.gcd_dvd_right _ _)
    · rcases List.mem_cons.mp h with rfl | h
      · exact Nat.dvd_trans k (Nat.gcd_dvd_left _ _)
      · exact gcdR_dvd qs _ _ (.inr h)
theorem coprime_below {g : Nat} (hg : g = as.foldl Nat.gcd a) (ha : 0 < a) : gcdR ((a :: as).map (· / g)) = 1 := by
  have hgp : 0 < g := Nat.pos_of_dvd_of_pos (by rw [hg]; exact gcdF_dvd _ _ _ List.mem_cons_self) ha
  have h : gcdR ((a :: as).map (· / g)) * g ∣ g := by
    have : ∀ b ∈ a :: as, gcdR ((a :: as).map (· / g)) * g ∣ b := fun b hb => by
      have h1 : gcdR ((a :: as).map (· / g)) ∣ b / g := gcdR_dvd _ _ _ (.inr (List.mem_map.mpr ⟨b, hb, rfl⟩))
      have h2 : g ∣ b := by rw [hg]; exact gcdF_dvd _ _ _ hb
      have := Nat.mul_dvd_mul_right h1 g
      rwa [Nat.div_mul_cancel h2] at this
    have k := dvd_gcdF _ _ _ this
    rwa [← hg] at k
  have := Nat.le_of_dvd hgp h
  have h0 : gcdR ((a :: as).map (· / g)) ≠ 0 := fun z => by rw [z, Nat.zero_mul] at h; have := Nat.eq_zero_of_zero_dvd h; omega
  have : gcdR ((a :: as).map (· / g)) * g ≤ 1 * g := by omega
  have := Nat.le_of_mul_le_mul_right this hgp
  omega
theorem coprime_above {L : Nat} (hL : L = as.foldl Nat.lcm a) (hp : 0 < L) : gcdR ((a :: as).map (L / ·)) = 1 := by
  have hd : ∀ b ∈ a :: as, b ∣ L := fun b hb => by rw [hL]; exact dvd_lcmF _ _ _ hb
  have hk : gcdR ((a :: as).map (L / ·)) ∣ L := by
    have h1 : gcdR ((a :: as).map (L / ·)) ∣ L / a := gcdR_dvd _ _ _ (.inr (List.mem_map.mpr ⟨a, List.mem_cons_self, rfl⟩))
    exact Nat.dvd_trans h1 (Nat.div_dvd_of_dvd (hd a List.mem_cons_self))
  generalize hf : gcdR ((a :: as).map (L / ·)) = f at *
  have h0 : f ≠ 0 := fun z => by rw [z] at hk; have := Nat.eq_zero_of_zero_dvd hk; omega
  have hlow : L ∣ L / f := by
    have : ∀ b ∈ a :: as, b ∣ L / f := fun b hb => by
      have h1 : f ∣ L / b := by rw [← hf]; exact gcdR_dvd _ _ _ (.inr (List.mem_map.mpr ⟨b, hb, rfl⟩))
      obtain ⟨c, hc⟩ := h1
      have hb' := hd b hb
      have e : L = b * (f * c) := by rw [← hc, Nat.mul_div_cancel' hb']
      exact ⟨c, by rw [e]; rw [show b * (f * c) = (b * c) * f by rw [Nat.mul_comm f c, Nat.mul_assoc]]; exact Nat.mul_div_cancel _ (by omega)⟩
    have k := lcmF_dvd _ _ _ this
    rwa [← hL] at k
  have h1 : L ≤ L / f := Nat.le_of_dvd (Nat.div_pos (Nat.le_of_dvd hp hk) (by omega)) hlow
  have h2 := Nat.div_mul_le_self L f
  by_cases h3 : f = 1
  · exact h3
  · have : 2 ≤ f := by omega
    have : L * 2 ≤ L / f * f := Nat.mul_le_mul h1 this
    omega
theorem On.quot (h : On N x a) (k : On N y b) (d : b ∣ a) : red (x.1 * y.2) (x.2 * y.1) = (((a / b : Nat) : Int), 1) := by
  have hp : (0 : Int) < x.2 * y.1 := Int.mul_pos h.q k.p
  refine red_eq (Int.ne_of_gt hp) ⟨by decide, by simp [Int.gcd]⟩ ?_
  have hn : (N : Int) ≠ 0 := by have := h.n; omega
  have e : (((a / b : Nat) : Int)) * b = a := by rw [← Int.natCast_mul, Nat.div_mul_cancel d]
  have h1 := h.e
  have h2 := k.e
  refine mulC hn ?_
  generalize ((a / b : Nat) : Int) = c at *
  grind
theorem On.times (h : On N x a) {c e : Nat} (hc : 0 < c) (he : 0 < e) : On (e * N) (red (x.1 * c) (x.2 * e)) (c * a) := by
  refine On.of_red (Int.mul_pos h.q (by omega)) (Nat.mul_pos he h.n) (Nat.mul_pos hc h.ap) ?_
  have := h.e
  rw [Int.natCast_mul, Int.natCast_mul]
  grind
theorem red_congr {A B C D : Int} (hB : B ≠ 0) (hD : D ≠ 0) (e : A * D = C * B) : red A B = red C D := by
  have c := red_cross (a := C) hD
  have i := red_num (a := C) hD
  generalize red C D = t at *
  obtain ⟨u, v⟩ := t
  simp only at c i
  refine red_eq hB i (mulC hD ?_)
  clear i
  grind
end
end Rm
/-! Comprehensions whose items are new objects. -/
namespace Rm
open PySem PySem.W PySem.Calls PyProof.Rows PySem.Spec L2
theorem Exb.get {D : Addr} {H H' : Hp} {p : Addr} {o : HO} (e : Exb D H H') (h : H p = some o) (n : p ≠ D) : H' p = some o := e p o n h
/-- the list so far, each item an object of its own -/
def Lcs (D : Addr) (o : Nat → HO) (H1 : Hp) (i : Nat) (H : Hp) : Prop := ∃ acc : List V, H D = some (.lst acc) ∧ acc.length = i ∧ (∀ k, k < i → ∃ p, acc[k]? = some (.ref p) ∧ p ≠ D ∧ H p = some (o k)) ∧ Ex H1 H
theorem Lcs.start {D : Addr} {o : Nat → HO} {H1 : Hp} (hD : H1 D = none) : Lcs D o H1 0 (upd H1 D (.lst [])) := ⟨[], upd_same, rfl, fun k hk => absurd hk (Nat.not_lt_zero _), Evl.Ex.new hD⟩
theorem Lcs.step {D : Addr} {o : Nat → HO} {H1 H H4 : Hp} {i : Nat} {p : Addr} (hD : H1 D = none) (hi : i < 1000) (h : Lcs D o H1 i H) (hp : H p = none) (h4 : H4 p = some (o i)) (e : Ex H H4) :
    ∃ acc, H4 D = some (.lst acc) ∧ acc.length < sizeLine ∧ Lcs D o H1 (i + 1) (upd H4 D (.lst (acc ++ [.ref p]))) := by
  obtain ⟨acc, h1, h2, h3, h5⟩ := h
  have pD : p ≠ D := fun z => by rw [z, h1] at hp; cases hp
  refine ⟨acc, e _ _ h1, by rw [sizeLine_eq]; omega, acc ++ [.ref p], upd_same, by rw [List.length_append]; simp [h2], fun k hk => ?_, fun a u ha => ?_⟩
  · by_cases hk' : k < i
    · obtain ⟨q, q1, q2, q3⟩ := h3 k hk'
      exact ⟨q, by rw [List.getElem?_append_left (by omega)]; exact q1, q2, by rw [upd_ne q2]; exact e _ _ q3⟩
    · have : k = i := by omega
      subst this
      exact ⟨p, by rw [List.getElem?_append_right (by omega), h2]; simp, pD, by rw [upd_ne pD]; exact h4⟩
  · have aD : a ≠ D := ne_of_none ha hD
    rw [upd_ne aD]
    exact e _ _ (h5 _ _ ha)
theorem wipe_set {σ : L2.St} {j : Nat} {x : Option V} : wipe ((wipe σ [j]).set j x) [j] = wipe σ [j] := by
  show (((σ.set j none).set j x).set j none) = σ.set j none
  rw [List.set_set, List.set_set]
theorem lc_objs {K : Frag} {te : TE} {j : Nat} {σ : L2.St} {H1 : Hp} {a D : Addr} {xs : List V} {Qd : Hp → Prop} (o : Nat → HO) (ha : SqL K H1 a xs) (hl : xs.length ≤ 1000) (hD : H1 D = none)
    (hs : ∀ i x Hc (R : VK), xs[i]? = some x → Ex H1 Hc → (∀ p H4, Hc p = none → Ex Hc H4 → H4 p = some (o i) → R (.ref p) H4) → te ((wipe σ [j]).set j (some x)) Hc R)
    (hd : ∀ Hc, Lcs D o H1 xs.length Hc → Qd Hc) :
    ∃ W : Nat → Nat → Hp → Prop, (∃ m, W 0 m (upd H1 D (.lst []))) ∧ ∀ i m H, W i m H →
      ((Itl K a).stop i H ∧ Qd H) ∨ ((Itl K a).go i H ∧ ∃ Nx : Hp → Prop, (∀ H', Nx H' → ∃ m', m' < m ∧ W (i + 1) m' H') ∧ ∀ x H', (Itl K a).yld i H x H' → gName j x (wipe σ [j]) H' fun σ2 H2 => wipe σ2 [j] = wipe σ [j] ∧ tYes σ2 H2 fun b H3 =>
        if b = true then te σ2 H3 fun y H4 => ∃ acc, H4 D = some (.lst acc) ∧ acc.length < sizeLine ∧ Nx (upd H4 D (.lst (acc ++ [y]))) else Nx H3) := by
  refine lc_list (K := K) (a := a) (xs := xs) (g := gName j) (tt := tYes) (te := te) (vs := [j]) (σ := σ) (Lcs D o H1) (Lcs.start hD) (fun i Hc _ h => Evl.ex_l h.choose_spec.2.2.2 ha) (fun i x Hc hx h => ?_) hd
  refine ⟨wipe_set, ?_⟩
  unfold tYes
  simp only [if_true]
  have hi : i < xs.length := by
    by_cases hi : i < xs.length
    · exact hi
    · rw [List.getElem?_eq_none (by omega)] at hx; cases hx
  exact hs i x Hc _ hx h.choose_spec.2.2.2 fun p H4 h1 h3 h2 => Lcs.step hD (by omega) h h1 h2 h3
theorem lc_rng {te : TE} {j n : Nat} {σ : L2.St} {H : Hp} {D : Addr} {Qd : Hp → Prop} (o : Nat → HO) (hl : n ≤ 1000) (hD : H D = none)
    (hs : ∀ (i : Nat) Hc (R : VK), i < n → Ex H Hc → (∀ p H4, Hc p = none → Ex Hc H4 → H4 p = some (o i) → R (.ref p) H4) → te ((wipe σ [j]).set j (some (.int i))) Hc R)
    (hd : ∀ Hc, Lcs D o H n Hc → Qd Hc) :
    ∃ W : Nat → Nat → Hp → Prop, (∃ m, W 0 m (upd H D (.lst []))) ∧ ∀ i m H, W i m H →
      ((Itr 0 n).stop i H ∧ Qd H) ∨ ((Itr 0 n).go i H ∧ ∃ Nx : Hp → Prop, (∀ H', Nx H' → ∃ m', m' < m ∧ W (i + 1) m' H') ∧ ∀ x H', (Itr 0 n).yld i H x H' → gName j x (wipe σ [j]) H' fun σ2 H2 => wipe σ2 [j] = wipe σ [j] ∧ tYes σ2 H2 fun b H3 =>
        if b = true then te σ2 H3 fun y H4 => ∃ acc, H4 D = some (.lst acc) ∧ acc.length < sizeLine ∧ Nx (upd H4 D (.lst (acc ++ [y]))) else Nx H3) := by
  refine lc_range (lo := 0) (n := n) (g := gName j) (tt := tYes) (te := te) (vs := [j]) (σ := σ) (Lcs D o H) (Lcs.start hD) (fun i Hc hi h => ?_) hd
  refine ⟨wipe_set, ?_⟩
  unfold tYes
  simp only [if_true]
  rw [Int.zero_add]
  exact hs i Hc _ hi h.choose_spec.2.2.2 fun p H4 h1 h3 h2 => Lcs.step hD (by omega) h h1 h2 h3
/-- what stands in the end -/
theorem Lcs.data {K : Frag} {D : Addr} {o : Nat → HO} {H1 H : Hp} {ds : List PyData} (h : Lcs D o H1 ds.length H) (hd : ∀ k d p, ds[k]? = some d → H p = some (o k) → Dp K H (.ref p) d) : ∃ acc, H D = some (.lst acc) ∧ acc.length = ds.length ∧ DpAll K H acc ds := by
  obtain ⟨acc, h1, h2, h3, h4⟩ := h
  refine ⟨acc, h1, h2, ?_⟩
  have key : ∀ (as : List V) (es : List PyData), as.length = es.length → (∀ (k : Nat) (d : PyData), es[k]? = some d → ∃ v, as[k]? = some v ∧ Dp K H v d) → DpAll K H as es := by
    intro as
    induction as with
    | nil => intro es hl _; cases es with
      | nil => exact .nil
      | cons _ _ => cases hl
    | cons v as ih =>
      intro es hl hh
      cases es with
      | nil => cases hl
      | cons d es =>
        obtain ⟨v', e1, e2⟩ := hh 0 d rfl
        cases e1
        exact .cons e2 (ih es (by simpa using hl) fun k d hk => by simpa using hh (k + 1) d (by simpa using hk))
  refine key acc ds h2 fun k d hk => ?_
  have hk' : k < ds.length := by
    by_cases hi : k < ds.length
    · exact hi
    · rw [List.getElem?_eq_none (by omega)] at hk; cases hk
  obtain ⟨p, p1, p2, p3⟩ := h3 k hk'
  exact ⟨_, p1, hd k d p hk p3⟩
/-! positive numbers -/
def numD (xs : List (Int × Int)) : List PyData := xs.map fun x => .tuple [.int x.1, .int x.2]
def fbP : List V → List PyData → Option V
  | x :: xs, d :: ds => if isPosD d = true then fbP xs ds else some x
  | _, _ => none
theorem fbP_drop {K : Frag} {H : Hp} : ∀ {vs : List V} {ds : List PyData} {i : Nat} {x : V}, DpAll K H vs ds → vs[i]? = some x → ∃ d, ds[i]? = some d ∧ Dp K H x d ∧ fbP (vs.drop i) (ds.drop i) = (if isPosD d = true then fbP (vs.drop (i + 1)) (ds.drop (i + 1)) else some x)
  | v :: vs, d :: ds, 0, x, .cons a b, h => by
    simp at h
    subst h
    exact ⟨d, rfl, a, rfl⟩
  | v :: vs, d :: ds, i + 1, x, .cons a b, h => by
    obtain ⟨d', e1, e2, e3⟩ := fbP_drop (i := i) (x := x) b (by simpa using h)
    exact ⟨d', by simpa using e1, e2, by simpa using e3⟩
  | [], [], _, _, .nil, h => by simp at h
theorem fbP_none : ∀ {vs : List V} {ds : List PyData}, vs.length = ds.length → fbP vs ds = none → ∃ xs, ds = numD xs ∧ ∀ x ∈ xs, IsNum x.1 x.2 ∧ 0 < x.1
  | [], [], _, _ => ⟨[], rfl, fun _ h => by cases h⟩
  | v :: vs, d :: ds, hl, h => by
    simp only [fbP] at h
    split at h
    · rename_i hd
      obtain ⟨p, q, rfl, i, h0⟩ := isPosD_inv hd
      obtain ⟨xs, rfl, hx⟩ := fbP_none (by simpa using hl) h
      refine ⟨(p, q) :: xs, rfl, fun x hx' => ?_⟩
      rcases List.mem_cons.mp hx' with rfl | hx'
      · exact ⟨i, h0⟩
      · exact hx x hx'
    · cases h
theorem fbP_num : ∀ {vs : List V} {xs : List (Int × Int)}, (∀ x ∈ xs, IsNum x.1 x.2 ∧ 0 < x.1) → fbP vs (numD xs) = none
  | [], _, _ => by unfold fbP; rfl
  | _ :: _, [], _ => rfl
  | v :: vs, x :: xs, h => by
    have hx := h x List.mem_cons_self
    have e : isPosD (.tuple [.int x.1, .int x.2]) = true := by rw [isPosD_is hx.1]; exact decide_eq_true hx.2
    show (if isPosD (.tuple [.int x.1, .int x.2]) = true then fbP vs (numD xs) else some v) = none
    rw [if_pos e]
    exact fbP_num fun y hy => h y (List.mem_cons_of_mem _ hy)
/-- a number, not too great -/
structure Fit (n : Nat) (x : Int × Int) : Prop where
  i : IsNum x.1 x.2
  p : 0 < x.1
  b1 : Bd n x.1
  b2 : Bd n x.2
theorem Fit.mono {n m : Nat} {x : Int × Int} (h : Fit n x) (hm : n ≤ m) : Fit m x := ⟨h.i, h.p, h.b1.mono hm, h.b2.mono hm⟩
theorem Fit.q {n : Nat} {x : Int × Int} (h : Fit n x) : 0 < x.2 := h.i.1
theorem Fit.red {n : Nat} {A B : Int} (hA : 0 < A) (hB : 0 < B) (b1 : Bd n A) (b2 : Bd n B) : Fit n (red A B) := by
  have h0 : B ≠ 0 := by omega
  have c := red_cross (a := A) h0
  have i := red_num (a := A) h0
  refine ⟨i, ?_, b1.red1 h0, b2.red2 h0⟩
  have h1 : 0 < A * (Rm.red A B).2 := Int.mul_pos hA i.1
  rw [← c] at h1
  exact Int.pos_of_mul_pos_left h1 hB
theorem Fit.meas {n m : Nat} {x y : Int × Int} (h : Fit n x) (k : Fit m y) : Fit (n + m) (meas x y) := by
  have hp := Int.mul_pos h.p k.q
  refine Fit.red ?_ (Int.mul_pos h.q k.q) ?_ (h.b2.mul k.b2)
  · have : 0 < Int.gcd (x.1 * y.2) (y.1 * x.2) := Int.gcd_pos_of_ne_zero_left _ (by omega)
    omega
  · refine Nat.lt_of_le_of_lt ?_ (h.b1.mul k.b2)
    rw [Int.natAbs_natCast]
    exact Nat.le_of_dvd (by omega) (by unfold Int.gcd; exact Nat.gcd_dvd_left _ _)
theorem Fit.times {n m : Nat} {x y : Int × Int} (h : Fit n x) (k : Fit m y) : Fit (n + m) (Rm.red (x.1 * y.1) (x.2 * y.2)) := Fit.red (Int.mul_pos h.p k.p) (Int.mul_pos h.q k.q) (h.b1.mul k.b1) (h.b2.mul k.b2)
theorem Fit.over {n m : Nat} {x y : Int × Int} (h : Fit n x) (k : Fit m y) : Fit (n + m) (Rm.red (x.1 * y.2) (x.2 * y.1)) := Fit.red (Int.mul_pos h.p k.q) (Int.mul_pos h.q k.p) (h.b1.mul k.b2) (h.b2.mul k.b1)
theorem Fit.lmul {n m : Nat} {x y : Int × Int} (h : Fit n x) (k : Fit m y) : Fit ((n + m) + (n + m)) (lmul x y) := (h.times k).over (h.meas k)
def bb : Nat → Nat
  | 0 => 100
  | i + 1 => (bb i + 100) + (bb i + 100)
theorem bb_le {i : Nat} (h : i ≤ 3) : bb i ≤ 2200 := by
  have : i = 0 ∨ i = 1 ∨ i = 2 ∨ i = 3 := by omega
  rcases this with rfl | rfl | rfl | rfl <;> decide
section
variable {K : Frag} {H : Hp} {l : Addr} {vs : List V}
theorem NumAt.updL {x : V} {p q : Int} (h : NumAt K H x p q) (hl : H l = some (.lst vs)) (o : HO) : NumAt K (upd H l o) x p q := by
  obtain ⟨a, rfl, h⟩ := h
  refine ⟨a, rfl, ?_⟩
  rcases h with (h | ⟨u, h⟩) | h
  · exact .inl (.inl (by rw [upd_ne (fun z => by rw [z, hl] at h; cases h)]; exact h))
  · exact .inl (.inr ⟨u, by rw [upd_ne (fun z => by rw [z, hl] at h; cases h)]; exact h⟩)
  · exact .inr h
theorem numsL : ∀ {us : List V} {xs : List (Int × Int)}, DpAll K H us (numD xs) → H l = some (.lst vs) → ∀ o, DpAll K (upd H l o) us (numD xs)
  | [], [], _, _, _ => .nil
  | u :: us, x :: xs, h, hl, o => by
    cases h with
    | cons a b => exact .cons ((NumAt.of a).updL hl o).d (numsL b hl o)
theorem nums_refs : ∀ {us : List V} {xs : List (Int × Int)}, DpAll K H us (numD xs) → ∀ v ∈ us, ∃ a, v = .ref a
  | [], _, _, v, hv => by cases hv
  | u :: us, x :: xs, h, v, hv => by
    cases h with
    | cons a b =>
      rcases List.mem_cons.mp hv with rfl | hv
      · obtain ⟨t, e, _⟩ := NumAt.of a
        exact ⟨t, e⟩
      · exact nums_refs b v hv
theorem DrawAt.updL {d : Addr} {n : Nat} (h : DrawAt K H d n) (hl : H l = some (.lst vs)) (hv : ∀ v ∈ vs, ∃ a, v = .ref a) (o : HO) : DrawAt K (upd H l o) d n := by
  obtain ⟨c, cells, a, lf, u, h1, h2, h3, h4⟩ := h
  refine ⟨c, cells, a, lf, u, by rw [upd_ne (fun z => by rw [z, hl] at h1; cases h1)]; exact h1, ?_, h3, h4⟩
  have ne : ∀ {P : Prop}, H l = some (.lst (cells.map V.int)) → P := fun h => by
    rw [hl] at h
    cases h
    cases cells with
    | nil => exact absurd rfl h3
    | cons i r =>
      obtain ⟨a, e⟩ := hv (.int i) List.mem_cons_self
      cases e
  rcases h2 with (h | ⟨w, h⟩) | h
  · exact .inl (.inl (by rw [upd_ne (fun z => ne (by rw [← z]; exact h))]; exact h))
  · exact .inl (.inr ⟨w, by rw [upd_ne (fun z => by rw [z, hl] at h; cases h)]; exact h⟩)
  · exact .inr h
theorem numD_app {xs ys : List (Int × Int)} : numD (xs ++ ys) = numD xs ++ numD ys := List.map_append
end
abbrev Op2 := Int × Int → Int × Int → Int × Int
def spFold (f : Op2) (K : Frag) (C0 C1 : Addr) : Sp := sp1 fun x H Q E => ∃ p vs ds, x = .ref p ∧ SqT K H p vs ∧ DpAll K H vs ds ∧ vs.length ≤ 4 ∧ (vs = [] → RErr H E C0 "count" (.int 0)) ∧
  (vs ≠ [] → (∀ z, fbP vs ds = some z → RErr H E C1 "thing" z) ∧ (∀ x0 xs, ds = numD (x0 :: xs) → (∀ y ∈ x0 :: xs, IsNum y.1 y.2 ∧ 0 < y.1) → (∀ y ∈ x0 :: xs, Fit 100 y) ∧ ∀ v H', NumAt K H' v (xs.foldl f x0).1 (xs.foldl f x0).2 → Ex H H' → Q v H'))
/-- the same of a list of one to four -/
def spFoldL (f : Op2) (K : Frag) (C1 : Addr) : Sp := sp1 fun x H Q E => ∃ a vs ds, x = .ref a ∧ SqL K H a vs ∧ DpAll K H vs ds ∧ 1 ≤ vs.length ∧ vs.length ≤ 4 ∧ (∀ z, fbP vs ds = some z → RErr H E C1 "thing" z) ∧
  (∀ x0 xs, ds = numD (x0 :: xs) → (∀ y ∈ x0 :: xs, IsNum y.1 y.2 ∧ 0 < y.1) → (∀ y ∈ x0 :: xs, Fit 100 y) ∧ ∀ v H', NumAt K H' v (xs.foldl f x0).1 (xs.foldl f x0).2 → Ex H H' → Q v H')
theorem fold_in {f : Op2} {K : Frag} {C0 C1 : Addr} {H : Hp} {Q : VK} {E : XK} {vs : List V} {ds : List PyData} (hds : DpAll K H vs ds) (h1 : vs ≠ []) (h2 : vs.length ≤ 4) (qe : ∀ z, fbP vs ds = some z → RErr H E C1 "thing" z)
    (qn : ∀ x0 xs, ds = numD (x0 :: xs) → (∀ y ∈ x0 :: xs, IsNum y.1 y.2 ∧ 0 < y.1) → (∀ y ∈ x0 :: xs, Fit 100 y) ∧ ∀ v H', NumAt K H' v (xs.foldl f x0).1 (xs.foldl f x0).2 → Ex H H' → Q v H') :
    vs.length ≤ sizeLine ∧ ∀ t, H t = none → spFold f K C0 C1 [.ref t] (upd H t (.tup vs)) Q E :=
  ⟨by rw [sizeLine_eq]; omega, fun t ht => ⟨_, rfl, t, vs, ds, rfl, SqT.of upd_same, (Car.ex (Evl.Ex.new ht)).ds hds, h2, fun z => absurd z h1, fun _ => ⟨fun z hz => RErr.ex (Evl.Ex.new ht) (qe z hz), fun x0 xs e hy => ⟨(qn x0 xs e hy).1, fun v H' nv eH => (qn x0 xs e hy).2 v H' nv ((Evl.Ex.new ht).trans eH)⟩⟩⟩⟩
theorem numD_inj : ∀ {xs ys : List (Int × Int)}, numD xs = numD ys → xs = ys
  | [], [], _ => rfl
  | [], _ :: _, h => by cases h
  | _ :: _, [], h => by cases h
  | x :: xs, y :: ys, h => by
    have h' : PyData.tuple [.int x.1, .int x.2] :: numD xs = PyData.tuple [.int y.1, .int y.2] :: numD ys := h
    simp only [List.cons.injEq, PyData.tuple.injEq, PyData.int.injEq, and_true] at h'
    obtain ⟨⟨e1, e2⟩, e3⟩ := h'
    rw [numD_inj e3, Prod.ext e1 e2]
theorem fold_num {f : Op2} {K : Frag} {C1 : Addr} {H : Hp} {Q : VK} {E : XK} {a : Addr} {vs : List V} {x0 : Int × Int} {xs : List (Int × Int)} (ha : SqL K H a vs) (hds : DpAll K H vs (numD (x0 :: xs))) (h4 : xs.length ≤ 3) (hf : ∀ y ∈ x0 :: xs, Fit 100 y)
    (h : ∀ v H', NumAt K H' v (xs.foldl f x0).1 (xs.foldl f x0).2 → Ex H H' → Q v H') : spFoldL f K C1 [.ref a] H Q E := by
  have hl : vs.length = xs.length + 1 := by rw [Rm.DpAll.len hds]; simp [numD]
  refine ⟨_, rfl, a, vs, _, rfl, ha, hds, by omega, by omega, fun z hz => ?_, fun y0 ys e _ => ?_⟩
  · rw [fbP_num fun y hy => ⟨(hf y hy).i, (hf y hy).p⟩] at hz
    cases hz
  · have e' := numD_inj e
    cases e'
    exact ⟨hf, h⟩
theorem idx {K : Frag} {H : Hp} {N : Nat} : ∀ {vs : List V} {xs : List (Int × Int)} {as : List Nat} {i : Nat} {x : V}, DpAll K H vs (numD xs) → OnL N xs as → vs[i]? = some x → ∃ y b, xs[i]? = some y ∧ as[i]? = some b ∧ NumAt K H x y.1 y.2 ∧ On N y b
  | v :: vs, y :: xs, b :: as, 0, x, .cons h _, .cons o _, e => by
    simp at e
    subst e
    exact ⟨y, b, rfl, rfl, NumAt.of h, o⟩
  | v :: vs, y :: xs, b :: as, i + 1, x, .cons _ h, .cons _ o, e => by
    obtain ⟨y', b', e1, e2, e3, e4⟩ := idx (i := i) h o (by simpa using e)
    exact ⟨y', b', by simpa using e1, by simpa using e2, e3, e4⟩
  | [], [], _, _, _, .nil, _, e => by simp at e
theorem DpAll.rev {K : Frag} {H : Hp} : ∀ {vs : List V} {ds : List PyData}, DpAll K H vs ds → DpAll K H vs.reverse ds.reverse
  | [], [], .nil => .nil
  | v :: vs, d :: ds, .cons a b => by
    rw [List.reverse_cons, List.reverse_cons]
    exact DpAll.app (DpAll.rev b) (.cons a .nil)
theorem OnL.app {N : Nat} {xs ys : List (Int × Int)} {as bs : List Nat} (h : OnL N xs as) (k : OnL N ys bs) : OnL N (xs ++ ys) (as ++ bs) := by
  induction h with
  | nil => exact k
  | cons a _ ih => exact .cons a ih
theorem OnL.rev {N : Nat} {xs : List (Int × Int)} {as : List Nat} (h : OnL N xs as) : OnL N xs.reverse as.reverse := by
  induction h with
  | nil => exact .nil
  | cons a _ ih =>
    rw [List.reverse_cons, List.reverse_cons]
    exact ih.app (.cons a .nil)
theorem OnL.len {N : Nat} {xs : List (Int × Int)} {as : List Nat} (h : OnL N xs as) : xs.length = as.length := by
  induction h with
  | nil => rfl
  | cons _ _ ih => simp [ih]
theorem fold_eq {N : Nat} {x y : Int × Int} {xs ys : List (Int × Int)} {a b : Nat} {as bs : List Nat} (h : OnL N (x :: xs) (a :: as)) (k : OnL N (y :: ys) (b :: bs)) (e : ∀ c, c ∈ a :: as ↔ c ∈ b :: bs) :
    xs.foldl meas x = ys.foldl meas y ∧ xs.foldl lmul x = ys.foldl lmul y := by
  cases h with
  | cons h1 h2 =>
    cases k with
    | cons k1 k2 =>
      refine ⟨On.ext (h2.meas h1) ?_, On.ext (h2.lmul h1) ?_⟩
      · rw [gcdF_same e]; exact k2.meas k1
      · rw [lcmF_same e]; exact k2.lmul k1
theorem fold_fit {f : Op2} (hf : ∀ {n : Nat} {x y : Int × Int}, Fit n x → Fit 100 y → Fit ((n + 100) + (n + 100)) (f x y)) : ∀ (xs : List (Int × Int)) (x : Int × Int) (i : Nat), Fit (bb i) x → (∀ y ∈ xs, Fit 100 y) → Fit (bb (i + xs.length)) (xs.foldl f x)
  | [], _, _, h, _ => h
  | y :: xs, x, i, h, k => by
    have := fold_fit hf xs (f x y) (i + 1) (hf h (k y List.mem_cons_self)) fun z hz => k z (List.mem_cons_of_mem _ hz)
    show Fit (bb (i + (xs.length + 1))) (xs.foldl f (f x y))
    rw [show i + (xs.length + 1) = i + 1 + xs.length by omega]
    exact this
theorem and_in {tA tB : TT} {σ : L2.St} {H : Hp} {Q : Bool → Hp → Prop} (b : Bool) (hA : ∀ R : Bool → Hp → Prop, R b H → tA σ H R) (hB : b = true → ∀ R : Bool → Hp → Prop, (∀ H', Ex H H' → R false H') → tB σ H R) (hQ : ∀ H', Ex H H' → Q false H') : tAnd tA tB σ H Q := by
  refine hA _ ?_
  cases b with
  | false => exact iteF (hQ H (Evl.Ex.refl H))
  | true => exact iteT (hB rfl Q hQ)
end Rm
namespace Rm
open PySem PySem.W PySem.Calls PyProof.Rows PySem.Spec L2
theorem cut_to {xs : List V} {k : Nat} : cutV xs none (some (k : Int)) = xs.take k := by
  unfold cutV
  rw [HT.sIx_none, HT.sIx_nat, List.drop_zero, Nat.sub_zero, ← List.take_take, List.take_length]
theorem cut_from {xs : List V} {k : Nat} : cutV xs (some (k : Int)) none = xs.drop k := by
  unfold cutV
  rw [HT.sIx_none, HT.sIx_nat]
  by_cases h : k ≤ xs.length
  · rw [Nat.min_eq_left h, List.take_of_length_le (by rw [List.length_drop]; omega)]
  · rw [Nat.min_eq_right (by omega), List.drop_length, List.drop_of_length_le (by omega)]
    exact List.take_nil
theorem DpAll.take {K : Frag} {H : Hp} : ∀ {vs : List V} {ds : List PyData} (k : Nat), DpAll K H vs ds → DpAll K H (vs.take k) (ds.take k)
  | [], [], _, .nil => by simp; exact .nil
  | _ :: _, _ :: _, 0, _ => .nil
  | _ :: _, _ :: _, k + 1, .cons a b => .cons a (DpAll.take k b)
theorem DpAll.drop {K : Frag} {H : Hp} : ∀ {vs : List V} {ds : List PyData} (k : Nat), DpAll K H vs ds → DpAll K H (vs.drop k) (ds.drop k)
  | [], [], _, .nil => by simp; exact .nil
  | _ :: _, _ :: _, 0, h => h
  | _ :: _, _ :: _, k + 1, .cons _ b => DpAll.drop k b
/-- the objects of a comprehension, as data -/
theorem Lcs.pairs {K : Frag} {D : Addr} {o : Nat → HO} {H1 H : Hp} {ps : List (Int × Int)} {n : Nat} (hn : n = ps.length) (h : Lcs D o H1 n H) (ho : ∀ k y, ps[k]? = some y → o k = .tup [.int y.1, .int y.2]) : ∃ acc, H D = some (.lst acc) ∧ DpAll K H acc (numD ps) := by
  have h' : Lcs D o H1 (numD ps).length H := by rw [show (numD ps).length = n by simp [numD, hn]]; exact h
  obtain ⟨acc, h1, _, h3⟩ := h'.data (K := K) fun k d p hk hp => by
    have hk' : (numD ps)[k]? = some d := hk
    unfold numD at hk'
    rw [List.getElem?_map] at hk'
    cases e : ps[k]? with
    | none => rw [e] at hk'; cases hk'
    | some y =>
      rw [e] at hk'
      cases hk'
      rw [ho k y e] at hp
      exact (NumAt.new hp).d
  exact ⟨acc, h1, h3⟩
theorem On.prod {N : Nat} {l m x y : Int × Int} {g L a b : Nat} (hl : On N l g) (hm : On N m L) (hx : On N x a) (hy : On N y b) (e : g * L = a * b) : red (l.1 * m.1) (l.2 * m.2) = red (x.1 * y.1) (x.2 * y.2) := by
  refine red_congr (Int.ne_of_gt (Int.mul_pos hl.q hm.q)) (Int.ne_of_gt (Int.mul_pos hx.q hy.q)) ?_
  have e' : (g : Int) * L = (a : Int) * b := by rw [← Int.natCast_mul, e, Int.natCast_mul]
  have hn : (N : Int) ≠ 0 := by have := hl.n; omega
  have h1 := hl.e
  have h2 := hm.e
  have h3 := hx.e
  have h4 := hy.e
  refine mulC hn (mulC hn ?_)
  have s1 : l.1 * m.1 * (x.2 * y.2) * (N : Int) * N = (l.1 * N) * (m.1 * N) * (x.2 * y.2) := by grind
  have s2 : x.1 * y.1 * (l.2 * m.2) * (N : Int) * N = (x.1 * N) * (y.1 * N) * (l.2 * m.2) := by grind
  rw [s1, s2, h1, h2, h3, h4]
  have s3 : (g : Int) * l.2 * (L * m.2) * (x.2 * y.2) = (g * L) * (l.2 * m.2 * (x.2 * y.2)) := by grind
  have s4 : (a : Int) * x.2 * (b * y.2) * (l.2 * m.2) = (a * b) * (l.2 * m.2 * (x.2 * y.2)) := by grind
  rw [s3, s4, e']
/-- nothing comes out -/
theorem takesF {X : Cx} : Takes X (fun _ _ _ _ => False) := fun _ _ ⟨_, _, _, _, _, _, _, _, _, _, _, _, _, _, _, _, w⟩ => w.elim
theorem and2_in {tB : TT} {σ : L2.St} {H : Hp} {Q : Bool → Hp → Prop} {b : Bool} (hB : b = true → ∀ R : Bool → Hp → Prop, (∀ H', Ex H H' → R false H') → tB σ H R) (hQ : ∀ H', Ex H H' → Q false H') : if b = true then tB σ H Q else Q false H := by
  cases b with
  | false => exact iteF (hQ H (Evl.Ex.refl H))
  | true => exact iteT (hB rfl Q hQ)
theorem rev_cons {α : Type} (x : α) (xs : List α) : ∃ y ys, (x :: xs).reverse = y :: ys := by
  cases h : (x :: xs).reverse with
  | nil => simp at h
  | cons y ys => exact ⟨y, ys, rfl⟩
def pairD (x y : Int × Int) : PyData := .list [.tuple [.int x.1, .int x.2], .tuple [.int y.1, .int y.2]]
theorem pairD_eq (x y : Int × Int) : PyData.eqv (pairD x y) (pairD x y) = true := by simp [pairD, PyData.eqv, PyData.eqvAll]
theorem pairD_ok (x y : Int × Int) : SeqAt.shaped (pairD x y) = true := by simp [pairD, SeqAt.shaped, PyData.canLay0, PyData.canLayAll0, PyData.depth, PyData.depthAll]
theorem Dp.pairN {K : Frag} {H : Hp} {p : Addr} {u v : V} {x y : Int × Int} (h : H p = none) (h1 : NumAt K H u x.1 x.2) (h2 : NumAt K H v y.1 y.2) : Dp K (upd H p (.lst [u, v])) (.ref p) (pairD x y) := Dp.lstN h (.cons h1.d (.cons h2.d .nil))
theorem one_num {K : Frag} {G : Hp} {v : V} {x : Int × Int} {vs : List V} {xs : List (Int × Int)} (h : DpAll K G (v :: vs) (numD (x :: xs))) : NumAt K G v x.1 x.2 := by
  cases h with
  | cons h _ => exact NumAt.of h
theorem two_num {K : Frag} {G : Hp} {v u : V} {x y : Int × Int} {vs : List V} {xs : List (Int × Int)} (h : DpAll K G (v :: u :: vs) (numD (x :: y :: xs))) : NumAt K G v x.1 x.2 ∧ NumAt K G u y.1 y.2 := by
  cases h with
  | cons h r =>
    cases r with
    | cons h2 _ => exact ⟨NumAt.of h, NumAt.of h2⟩
/-- times 6/35 -/
def sc (y : Int × Int) : Int × Int := red (y.1 * 6) (y.2 * 35)
theorem On.sc {N : Nat} {x : Int × Int} {a : Nat} (h : On N x a) : On (35 * N) (Rm.sc x) (6 * a) := h.times (c := 6) (e := 35) (by decide) (by decide)
theorem OnL.sc {N : Nat} {xs : List (Int × Int)} {as : List Nat} (h : OnL N xs as) : OnL (35 * N) (xs.map Rm.sc) (as.map (6 * ·)) := by
  induction h with
  | nil => exact .nil
  | cons a _ ih => exact .cons a.sc ih
theorem fit635 : Fit 6 (6, 35) := ⟨⟨by decide, by decide⟩, by decide, by show Bd 6 6; unfold Bd; decide, by show Bd 6 35; unfold Bd; decide⟩
theorem Fit.sc {n : Nat} {x : Int × Int} (h : Fit n x) : Fit (n + 6) (Rm.sc x) := h.times fit635
theorem op_eqDK {X : Cx} {K : Frag} (hk : X.K = K) (hu : X.A.units + 64 < cLine) : OpR X (compareOp .Eq) (rEqD K) := by
  subst hk
  exact op_eqD hu
theorem fbP_bad : ∀ {vs : List V} {ys : List (Int × Int)} {k : Nat} {v : V} {d : PyData}, vs.length = ys.length → k < ys.length → (∀ y ∈ ys, IsNum y.1 y.2 ∧ 0 < y.1) → isPosD d = false → fbP (vs.take k ++ [v] ++ vs.drop (k + 1)) ((numD ys).take k ++ [d] ++ (numD ys).drop (k + 1)) = some v
  | u :: vs, y :: ys, 0, v, d, _, _, _, hd => by
    show (if isPosD d = true then _ else some v) = some v
    rw [if_neg (by rw [hd]; simp)]
  | u :: vs, y :: ys, k + 1, v, d, hl, hk, h, hd => by
    have hx := h y List.mem_cons_self
    have e : isPosD (.tuple [.int y.1, .int y.2]) = true := by rw [isPosD_is hx.1]; exact decide_eq_true hx.2
    show (if isPosD (.tuple [.int y.1, .int y.2]) = true then fbP (vs.take k ++ [v] ++ vs.drop (k + 1)) ((numD ys).take k ++ [d] ++ (numD ys).drop (k + 1)) else some u) = some v
    rw [if_pos e]
    exact fbP_bad (by simpa using hl) (by simpa using hk) (fun z hz => h z (List.mem_cons_of_mem _ hz)) hd
  | _, [], _, _, _, _, hk, _, _ => by simp at hk
  | [], _ :: _, _, _, _, hl, _, _, _ => by simp at hl
theorem nums_gd {ys : List (Int × Int)} (h : ∀ y ∈ ys, Fit 90 y) (hl : ys.length ≤ 4) : Gd 100 16000000 (.list (numD ys)) := by
  have : ∀ d ∈ numD ys, Gd 1 3852 d := fun d hd => by
    obtain ⟨y, hy, rfl⟩ := List.mem_map.mp hd
    exact Gd.pair (Gd.int ((h y hy).b1.mono (by decide))) (Gd.int ((h y hy).b2.mono (by decide)))
  refine (Gd.lst this).mono (by decide) ?_
  have e : (numD ys).length = ys.length := List.length_map ..
  rw [e]
  omega
theorem canAll : ∀ {ds : List PyData}, (∀ d ∈ ds, d.canLay0 = true ∧ d.depth ≤ 60) → PyData.canLayAll0 ds = true ∧ PyData.depthAll ds ≤ 60
  | [], _ => ⟨rfl, Nat.zero_le _⟩
  | d :: ds, h => by
    obtain ⟨h1, h2⟩ := canAll (ds := ds) fun x hx => h x (List.mem_cons_of_mem _ hx)
    have h3 := h d List.mem_cons_self
    refine ⟨?_, ?_⟩
    · simp [PyData.canLayAll0, h3.1, h1]
    · simp only [PyData.depthAll]; omega
theorem shaped_list {ds : List PyData} (h : ∀ d ∈ ds, d.canLay0 = true ∧ d.depth ≤ 60) : SeqAt.shaped (.list ds) = true := by
  obtain ⟨h1, h2⟩ := canAll h
  have h3 : (PyData.list ds).canLay0 = true := by simpa [PyData.canLay0] using h1
  have h4 : (PyData.list ds).depth ≤ 64 := by simp only [PyData.depth]; omega
  unfold SeqAt.shaped
  rw [h3, decide_eq_true h4]
  rfl
theorem num_can (y : Int × Int) : (PyData.tuple [.int y.1, .int y.2]).canLay0 = true ∧ (PyData.tuple [.int y.1, .int y.2]).depth ≤ 60 := by simp [PyData.canLay0, PyData.canLayAll0, PyData.depth, PyData.depthAll]
end Rm
/-! An exception of an own class made by keyword. -/
namespace PySem
namespace RmKw
open Builtin Builtin.ObjectAttr HandSPX
section
variable {M : Model} {A : Around} {E : Value → Shared → Prop} {h : Heap} {g : Array GenState} {d : Drawn} {t : Nat} {os : OsState}
variable {nm q : Str} {C N : Addr} {bs bm bmB : List Value} {hdct : Bool} {sn : List Str} {sub : List Value} {ab : Bool} {col : Option Bool} {dd : Option Addr} {k0 k1 k2 k3 k5 : Option Value} {B newId initId : String}
theorem kw_check (F : ExcBaseFacts B newId initId bmB) (hT : ∀ X : String, bm.contains (.type X) = bmB.contains (.type X)) {fld : Str} {u : Value} {Q : Unit → Shared → Prop}
    (hC : h.get? C = some (excClassObj nm q C N bs bm hdct sn sub ab col dd k0 k1 k2 k3 k5 newId)) (hq : Q () ⟨h, g, d, t, os⟩) : wpAny M A (checkBuiltinCall newId ⟨[.ref C], [(fld, u)]⟩) Q E ⟨h, g, d, t, os⟩ := by
  have hcont : (Value.ref C :: bm).contains (.type B) = true := by rw [List.contains_cons, hT, F.hasB, Bool.or_true]
  have hstar := F.noStar
  simp only [checkBuiltinCall, F.newKind, F.newSplit, F.newRow]
  repeat (first | refine wpAny_loadPart_at hC ?_ | (refine wpAny_isSubtype_exc hC ?_; rw [hcont]) | refine wpAny_staticBase_exc hC ?_ | refine wpAny_madeBy_exc hC ?_ | simp only [bne_self_eq_false, Bool.false_eq_true, if_false] | wp_step)
  exact hq
end
section
variable {prog : Program} {w : World} {A : Around} {E : Value → Shared → Prop} {R : Result → Shared → Prop} {h : Heap} {g : Array GenState} {d : Drawn} {t : Nat} {os : OsState}
variable {nm q : Str} {C N : Addr} {bs bm bmB : List Value} {hdct : Bool} {sn : List Str} {sub : List Value} {ab : Bool} {col : Option Bool} {dd : Option Addr} {k0 k1 k2 k3 k5 : Option Value} {B newId initId : String}
theorem kw_new (F : ExcBaseFacts B newId initId bmB) (hT : ∀ X : String, bm.contains (.type X) = bmB.contains (.type X)) {fld : Str} {u : Value}
    (hC : h.get? C = some (excClassObj nm q C N bs bm hdct sn sub ab col dd k0 k1 k2 k3 k5 newId))
    (hq : R (.ok (.ret (.ref (h.objs.size + 1)))) ⟨(h.push (W.kdv_tup [])).push (excO C h.objs.size), g, d, t, os⟩) :
    codeAny (model prog w) A (.builtin newId ⟨[.ref C], [(fld, u)]⟩) R ⟨h, g, d, t, os⟩ := by
  have hends := F.ends
  have hcB : (Value.ref C :: bm).contains (.type B) = true := by rw [List.contains_cons, hT, F.hasB, Bool.or_true]
  have hcA : (Value.ref C :: bm).contains (.type "AttributeError") = false := by rw [List.contains_cons, hT, F.noAttr]; rfl
  have hcN : (Value.ref C :: bm).contains (.type "NameError") = false := by rw [List.contains_cons, hT, F.noName]; rfl
  refine codeAny_builtinAt F.entry ?_
  unfold Builtin.«BaseException.__new__»
  refine wpAt_bind (wpAt_bind (wpAt_stack fun p below => wpAt_of_wpAny ?_))
  wp_walk
  refine wpAt_of_wpAny ?_
  rw [F.owner]
  repeat (first | with_reducible refine wpAny_madeHere_exc F.canon hC ?_ | with_reducible refine wpAny_loadPart_at hC ?_ | (with_reducible refine wpAny_isSubtype_exc hC ?_; first | rw [hcB] | rw [hcA] | rw [hcN]) | wp_step)
  show R _ _
  rw [Heap.size_push]
  exact hq
theorem kw_type (F : ExcBaseFacts B newId initId bmB) (hT : ∀ X : String, bm.contains (.type X) = bmB.contains (.type X)) {fld : Str} {u : Value} {fI : Addr} {Q : Fin → Shared → Prop}
    (hC : h.get? C = some (excClassObj nm q C N bs bm hdct sn sub ab col dd k0 k1 k2 k3 k5 newId))
    (hi : W.Looks (model prog w) h (typeLookup (.ref C) "__init__") (some (.ref fI))) (hb : ∀ self, W.Looks (model prog w) h (bindSpecial (.ref fI) self) (.ref fI, [self]))
    (hq : codeAny (model prog w) A (.call (.ref fI) ⟨[.ref (h.objs.size + 1)], [(fld, u)]⟩)
      (fun r s' => match r with | .ok (.ret v) => v = .none ∧ Q (.done (.ret (.ref (h.objs.size + 1)))) s' | .ok _ => False | .error e => E e s')
      ⟨(h.push (W.kdv_tup [])).push (excO C h.objs.size), g, d, t, os⟩) :
    wpAny (model prog w) A (Builtin.«type.__call__» ⟨[.ref C], [(fld, u)]⟩) Q E ⟨h, g, d, t, os⟩ := by
  repeat (first | with_reducible refine wpAny_loadPart_at hC ?_ | with_reducible refine wpAny_madeBy_exc hC ?_ | wp_step)
  refine codeAny_call_builtin_code (Code.quiet_builtin _ F.quiet) (kw_check F hT hC (kw_new F hT hC ?_))
  show wpAny _ _ _ _ _ _
  have k : ∀ b o, h.get? b = some o → ((h.push (W.kdv_tup [])).push (excO C h.objs.size)).get? b = some o := fun b o e => Heap.get?_push_of_some _ (Heap.get?_push_of_some _ e)
  have hC₁ := k _ _ hC
  have hget : ((h.push (W.kdv_tup [])).push (excO C h.objs.size)).get? (h.objs.size + 1) = some (excO C h.objs.size) := by heap_get
  have hcC : (Value.ref C :: bm).contains (.ref C) = true := by simp
  unfold isInstance
  repeat (first | with_reducible refine wpAny_loadPart_at hget ?_ | (with_reducible refine wpAny_isSubtype_exc hC₁ ?_; rw [hcC]) | wp_step)
  show wpAny _ _ (typeLookup (.ref C) _) _ _ _
  refine (hi.keeps k).at (wpAny_holding (wpAny_bind (((hb (.ref (h.objs.size + 1))).keeps k).at ?_)))
  refine wpAny_bind (wpAny_call (codeAny_mono hq fun r s' z => ?_))
  rcases r with e | (v | _ | _ | _) <;> first | exact z | exact z.elim | skip
  obtain ⟨rfl, z⟩ := z
  first
    | exact wpAny_pure (wpAny_pure z)
    | (wp_walk; exact z)
theorem kw_call (F : ExcBaseFacts B newId initId bmB) (hT : ∀ X : String, bm.contains (.type X) = bmB.contains (.type X)) {fld : Str} {u : Value} {fI : Addr}
    (hC : h.get? C = some (excClassObj nm q C N bs bm hdct sn sub ab col dd k0 k1 k2 k3 k5 newId))
    (hi : W.Looks (model prog w) h (typeLookup (.ref C) "__init__") (some (.ref fI))) (hb : ∀ self, W.Looks (model prog w) h (bindSpecial (.ref fI) self) (.ref fI, [self]))
    (hq : codeAny (model prog w) (A.under (.builtin "type.__call__" ⟨[.ref C], [(fld, u)]⟩)) (.call (.ref fI) ⟨[.ref (h.objs.size + 1)], [(fld, u)]⟩) (W.InitBack (h.objs.size + 1) R)
      ⟨(h.push (W.kdv_tup [])).push (excO C h.objs.size), g, d, t, os⟩) :
    codeAny (model prog w) A (.call (.ref C) ⟨[], [(fld, u)]⟩) R ⟨h, g, d, t, os⟩ := by
  have f1 := tc_lookup
  have f2 := tc_bind (.ref C)
  have hTy : (⟨h, g, d, t, os⟩ : Shared).TypeIs (.ref C) "type" := ⟨_, hC, rfl⟩
  refine codeAny_of_tree ?_
  show wpAny _ _ (callAny (.ref C) _) _ _ _
  repeat (any_goals (first | assumption | with_reducible refine wpAny_loadPart_at hC ?_ | wp_step))
  refine ⟨rfl, ?_⟩
  refine codeAny_call_builtin_at (Code.quiet_builtin _ (by decide +kernel)) entry_typeCall (wpAny_check_type_call_sub hC (kw_type F hT hC hi hb ?_))
  refine codeAny_mono hq fun r s' z => ?_
  rcases r with e | (v | _ | _ | _) <;> exact z
end
end RmKw
end PySem
namespace Rm
open PySem PySem.W PySem.Calls PyProof.Rows PySem.Spec L2
section
variable {X : Cx} {B newId initId : String} {bmB : List Value} {fld : Str} {C : Addr} {pins : List (Addr × Obj)} {σ : L2.St} {H : Hp} {s : Shared}
theorem x_newK {u : Value} {Q : Value → Shared → Prop} {E : Value → Shared → Prop} (T : XCls X.prog X.K X.mg B newId initId bmB fld C) (hr : Room 1 X.A) (I : Inv X pins σ H s)
    (hq : ∀ h' a t dx tk', (∀ b o, s.heap.get? b = some o → h'.get? b = some o) → s.heap.objs.size ≤ a → s.heap.objs.size ≤ dx → dx ≠ a → h'.get? a = some (excObj C t (some dx) .none) →
      h'.Ns1 dx (fun y => if y = fld then some u else none) → Q (.ref a) { s with heap := h', toks := tk' }) :
    wpAny (model X.prog X.w) X.A (call (.ref C) [] [(fld, u)]) Q E s := by
  obtain ⟨fI, _, _, _, _, _, _, _, _, _, _, _, _, _, _, _, _, _, _, _, _, _, _, _, _, _, _, _, _, _, _, _, _, _, _, _, f1, f2, f3, _⟩ := T.fn
  obtain ⟨nm, N', qn, bs, bm, hdct, sn, sub, ab, col, dd, k0, k3, k4, k5, k6, hC, hT⟩ := excInit_of I.kIn T.ei
  have G := gnd_of I
  obtain ⟨hh, g, d, t0, os⟩ := s
  have kp : ∀ b o, hh.get? b = some o → ((hh.push (kdv_tup [])).push (HandSPX.excO C hh.objs.size)).get? b = some o := fun b o e => Heap.get?_push_of_some _ (Heap.get?_push_of_some _ e)
  have hget : ((hh.push (kdv_tup [])).push (HandSPX.excO C hh.objs.size)).get? (hh.objs.size + 1) = some (HandSPX.excO C hh.objs.size) := by heap_get
  have tf : typeIn X.K (.ref fI) = some (.type "function") := by
    unfold isFn at f2
    exact eq_of_beq f2
  refine wpAny_call (RmKw.kw_call T.fb hT hC (looks_findIn I.kIn f1) (fun self => bind_fn I.kIn self tf) ?_)
  refine x_call (s := ⟨(hh.push (kdv_tup [])).push (HandSPX.excO C hh.objs.size), g, d, t0, os⟩) (e := hh.objs.size + 1) (t := hh.objs.size) T (G.keeps kp) hget ?_ ?_ f1 (.inr rfl) (fun h' t1 dx tk' a1 a2 a3 a4 a5 => ?_)
  · cases z : X.K.lookup (hh.objs.size + 1) with
    | none => rfl
    | some o => exact absurd (Heap.lt_size (I.kIn _ _ z)) (by show ¬ hh.objs.size + 1 < hh.objs.size; omega)
  · have := hr.dp
    have hm : (A : Around) → True := fun _ => trivial
    first
      | (rw [make_depth]; omega)
      | (show X.A.depth + 1 + 1 < _; omega)
      | omega
  · refine ⟨rfl, ?_⟩
    refine hq h' (hh.objs.size + 1) t1 dx tk' (fun b o z => a1 b o (Nat.ne_of_lt (Nat.lt_succ_of_lt (Heap.lt_size z))) (kp b o z)) (Nat.le_succ _) (Nat.le_trans ?_ a2) a3 a4 a5
    exact Nat.le_of_lt (Nat.lt_of_succ_lt (Heap.lt_size hget))
/-- C(f=e) as a value -/
def tNewXK (fld : Str) (C : Addr) (tk : TA) : TE := fun σ H Q => tk σ H fun zs H1 => ∃ v, zs = [v] ∧ ∀ a d, H1 a = none → H1 d = none → d ≠ a → Q (.ref a) (upd (upd H1 d (.xd [(fld, v)])) a (xV a (.ref C) (some d) true))
theorem pe_newXK {x : Str} {kws : List Keyword} {tk : TA} {p pos : Pos} (T : XCls X.prog X.K X.mg B newId initId bmB fld C) (hr : Room 1 X.A) (kC : keepIn X.K (.ref C) = true) (hg : Gl X x) (hm : X.mg x = some (.ref C)) (hkw : PK X kws tk)
    (hall : (backToKw pos (keywordEach kws X.env)).all (·.1.isSome) = true := by rfl) (hks : (backToKw pos (keywordEach kws X.env)).filterMap (·.1) = [fld] := by rfl)
    (hdb : (x == ("__debug__" : Str)) = false := by decide)
    (hpl : ((backToKw pos (keywordEach kws X.env)).any (·.1.isNone)) = false := by rfl) : PE X (.Call (.Name x p) [] kws pos) (tNewXK fld C tk) := by
  refine ⟨fun pins s σ H Q I h => wpAny_Call_Name_kw (ld_glob I hg hm ?_ hdb)⟩
  show wpAny _ _ (callWith pos (.ref C) [] [] (backToKw pos (keywordEach kws X.env))) _ _ _
  refine callWith_of (P := Frag.In X.K) (by show (false || _) = false; rw [hpl]; rfl) (keeps_K kC) (evalArgs_kw_nil hall ?_)
  refine thn (hkw.run pos pins s σ H _ I h) fun ws s2 ⟨zs, H2, I2, rz, v, ez, q2⟩ => ⟨I2.kIn, ?_⟩
  subst ez
  obtain ⟨u, rfl, r1⟩ := vals1 rz
  rw [hks]
  refine x_newK T hr I2 fun h' a t dx tk' k ha hd nd hx hn => ?_
  exact ⟨.ref a, _, x_laid I2 k ha hd nd hx hn r1, rfl, q2 a dx (I2.hok.fresh ha) (I2.hok.fresh hd) nd⟩
/-- isinstance(e, (A, B, ..)) of such an exception -/
def rIsXT (K : Frag) : List V → Hp → VK → Prop := fun xs H Q => ∃ (a C d : Addr) (fr : Bool) (fs : List (Str × V)) (tp : Addr) (cs : List V) (us : List Value) (b : Bool), xs = [.ref a, .ref tp] ∧ H tp = some (.tup cs) ∧ Paired ClsV cs us ∧ H a = some (xV a (.ref C) (some d) fr) ∧ H d = some (.xd fs) ∧ XKit K C ∧ kitAny K (.ref C) us = some b ∧ Q (.bl b) H
theorem call_isXT : CallR X (.builtin "isinstance") (rIsXT X.K) := fun pins s σ H xs us Q I r ⟨a, C, d, fr, fs, tp, cs, ws, b, ex, hT, k, ha, hd, T, hk, q⟩ => by
  subst ex
  obtain ⟨u1, u2, rfl, r1, r2⟩ := vals2 r
  obtain rfl : u1 = Value.ref a := r1
  obtain rfl : u2 = Value.ref tp := r2
  obtain ⟨ox, od, J, hl⟩ := x_inst I ha hd
  obtain ⟨_, its, rv, o, h1, h2, n, h3⟩ := (show ObjOk X.prog X.w H s.heap tp (.tup cs) from I.hok tp _ hT)
  have e3 := ClsV.all k rv
  subst e3
  obtain ⟨oc, od', dt, sl⟩ := o
  simp only at h2 h3
  subst h2 h3
  exact kia_tup (kitx_exc T.cl T.ga T.gg T.ex T.ha T.hn T.ht T.hm) I.kIn J h1 hk (by intro z; cases z) fun tk => ⟨.bl b, _, I.tok tk, rfl, q⟩
end
end Rm
/-! Errors of several classes, held in lists. -/
namespace Rm
open PySem PySem.W PySem.Calls PyProof.Rows PySem.Spec L2
theorem sf_RuntimeError : StoreFacts "RuntimeError" [.type "RuntimeError", .type "Exception", .type "BaseException", .type "object"] "object.__setattr__" "object" where
  mro := by kernel_rfl
  slot := .of (owner := "object") (n := "__setattr__") (by rw [typeLookup_type, builtinLookup_eq_fast]; kernel_rfl) (by decide +kernel) (by decide +kernel) (by decide +kernel) (by first | exact .inl (by decide +kernel) | exact .inr (by decide +kernel)) (by rw [isSubtype_type]; kernel_rfl)
  entry := F.entry_object_sa
  kind := by decide +kernel
  split := by decide +kernel
  hasOwner := by decide +kernel
  args := fun a b c => by unfold argsOk; kernel_rfl
  passes := fun self => by kernel_rfl
theorem sf_LookupError : StoreFacts "LookupError" [.type "LookupError", .type "Exception", .type "BaseException", .type "object"] "object.__setattr__" "object" where
  mro := by kernel_rfl
  slot := .of (owner := "object") (n := "__setattr__") (by rw [typeLookup_type, builtinLookup_eq_fast]; kernel_rfl) (by decide +kernel) (by decide +kernel) (by decide +kernel) (by first | exact .inl (by decide +kernel) | exact .inr (by decide +kernel)) (by rw [isSubtype_type]; kernel_rfl)
  entry := F.entry_object_sa
  kind := by decide +kernel
  split := by decide +kernel
  hasOwner := by decide +kernel
  args := fun a b c => by unfold argsOk; kernel_rfl
  passes := fun self => by kernel_rfl
/-- an error of the class C, its field f holds v -/
def XAt (H : Hp) (v : V) (c : Addr × Str) (x : V) : Prop := ∃ a d, x = .ref a ∧ H a = some (xV a (.ref c.1) (some d) true) ∧ H d = some (.xd [(c.2, v)])
def XAll (H : Hp) (v : V) : List (Addr × Str) → List V → Prop
  | [], [] => True
  | c :: cs, x :: xs => XAt H v c x ∧ XAll H v cs xs
  | _, _ => False
section
variable {H H' : Hp} {v x : V} {c : Addr × Str}
theorem XAt.ex (e : Ex H H') (h : XAt H v c x) : XAt H' v c x := by
  obtain ⟨a, d, h1, h2, h3⟩ := h
  exact ⟨a, d, h1, e _ _ h2, e _ _ h3⟩
theorem XAll.ex (e : Ex H H') : ∀ {cs : List (Addr × Str)} {xs : List V}, XAll H v cs xs → XAll H' v cs xs
  | [], [], _ => trivial
  | _ :: _, _ :: _, h => ⟨h.1.ex e, XAll.ex e h.2⟩
  | [], _ :: _, h => h
  | _ :: _, [], h => h
theorem XAll.app : ∀ {cs ds : List (Addr × Str)} {xs ys : List V}, XAll H v cs xs → XAll H v ds ys → XAll H v (cs ++ ds) (xs ++ ys)
  | [], _, [], _, _, h => h
  | _ :: _, _, _ :: _, _, h, k => ⟨h.1, XAll.app h.2 k⟩
  | [], _, _ :: _, _, h, _ => h.elim
  | _ :: _, _, [], _, h, _ => h.elim
theorem XAll.len : ∀ {cs : List (Addr × Str)} {xs : List V}, XAll H v cs xs → xs.length = cs.length
  | [], [], _ => rfl
  | _ :: _, _ :: _, h => congrArg (· + 1) (XAll.len h.2)
  | [], _ :: _, h => h.elim
  | _ :: _, [], h => h.elim
theorem XAll.at : ∀ {cs : List (Addr × Str)} {xs : List V} {i : Nat} {x : V}, XAll H v cs xs → xs[i]? = some x → ∃ c, cs[i]? = some c ∧ XAt H v c x
  | c :: cs, y :: xs, 0, x, h, e => by
    simp at e
    subst e
    exact ⟨c, rfl, h.1⟩
  | c :: cs, y :: xs, i + 1, x, h, e => by
    obtain ⟨d, e1, e2⟩ := XAll.at (i := i) h.2 (by simpa using e)
    exact ⟨d, by simpa using e1, e2⟩
  | [], [], _, _, _, e => by simp at e
  | [], _ :: _, _, _, h, _ => h.elim
  | _ :: _, [], _, _, h, _ => h.elim
theorem xnew_ex {a d : Addr} {o u : HO} (ha : H a = none) (hd : H d = none) (nd : d ≠ a) : Ex H (upd (upd H d o) a u) := fun b w e => by
  rw [upd_ne (ne_of_none e ha), upd_ne (ne_of_none e hd)]
  exact e
theorem xnew_at {a d C : Addr} {f : Str} (ha : H a = none) (nd : d ≠ a) : XAt (upd (upd H d (.xd [(f, v)])) a (xV a (.ref C) (some d) true)) v (C, f) (.ref a) := ⟨a, d, rfl, upd_same, by rw [upd_ne nd, upd_same]⟩
end
end Rm
namespace Rm
open PySem PySem.W PySem.Calls PyProof.Rows PySem.Spec L2
/-! list.count of truths -/
def eqB (k : Bool) : Value → Bool
  | .bool b => b == k
  | _ => false
theorem vals_bools {k : Bool} : ∀ {bs : List Bool} {us : List Value}, Vals (bs.map V.bl) us → us.countP (eqB k) = bs.count k ∧ ∀ y ∈ us, ∃ b, y = .bool b
  | [], [], .nil => ⟨rfl, fun y hy => by cases hy⟩
  | b :: bs, u :: us, .cons r h => by
    cases (show u = Value.bool b from r)
    obtain ⟨h1, h2⟩ := vals_bools (k := k) h
    refine ⟨?_, fun y hy => ?_⟩
    · rw [List.countP_cons, List.count_cons, h1]
      rfl
    · rcases List.mem_cons.mp hy with rfl | hy
      · exact ⟨b, rfl⟩
      · exact h2 y hy
def rCntB (K : Frag) : V → List V → Hp → VK → Prop := fun x xs H Q => ∃ (p : Addr) (bs : List Bool) (k : Bool), x = .ref p ∧ xs = [.bl k] ∧ SqL K H p (bs.map V.bl) ∧ Q (.int (bs.count k : Nat)) H
theorem mt_lcountB {X : Cx} : MtR X "list.count" (rCntB X.K) := by
  intro pins s σ H x xs v us Q I rx rxs h
  obtain ⟨p, bs, k, rfl, rfl, hs, q⟩ := h
  cases rx
  obtain ⟨u, rfl, ru⟩ := rxs.one
  cases (show u = Value.bool k from ru)
  obtain ⟨its, rv, ⟨⟨cls, dd, data, sl⟩, n, ho, hc, hdn, hd⟩, hlen⟩ := I.list hs
  simp only at hc hd
  subst hc hd
  obtain ⟨hcount, hall⟩ := vals_bools (k := k) rv
  refine call_meets PySem.F.slot_list_count ⟨_, ho, rfl⟩ PySem.F.entry_list_count (PySem.F.args_list_count_2 _ _)
    (SeqAt.list_countAt p its.toArray n dd sl (.bool k) (eqB k)) ⟨ho, fun y hy => ?_, ?_⟩
  · obtain ⟨b, rfl⟩ := hall y (by simpa using hy)
    exact SeqAt.EqAt.bool_bool b k
  refine ⟨.int (bs.count k : Nat), H, I.tok _, ⟨s.toks, ?_⟩, q⟩
  show Value.int ((its.toArray.toList.countP (eqB k) : Nat) : Int) s.toks = Value.int ((bs.count k : Nat) : Int) s.toks
  rw [show its.toArray.toList = its by simp, hcount]
/-! comprehensions of plain values -/
def Lcv (D : Addr) (o : Nat → V) (H1 : Hp) (i : Nat) (H : Hp) : Prop := H D = some (.lst ((List.range i).map o)) ∧ Ex H1 H
theorem lcv_rng {te : TE} {j n : Nat} {σ : L2.St} {H : Hp} {D : Addr} {Qd : Hp → Prop} (o : Nat → V) (hl : n ≤ 1000) (hD : H D = none)
    (hs : ∀ (i : Nat) Hc (R : VK), i < n → Ex H Hc → (∀ H4, Ex Hc H4 → R (o i) H4) → te ((wipe σ [j]).set j (some (.int i))) Hc R)
    (hd : ∀ Hc, Lcv D o H n Hc → Qd Hc) :
    ∃ W : Nat → Nat → Hp → Prop, (∃ m, W 0 m (upd H D (.lst []))) ∧ ∀ i m H, W i m H →
      ((Itr 0 n).stop i H ∧ Qd H) ∨ ((Itr 0 n).go i H ∧ ∃ Nx : Hp → Prop, (∀ H', Nx H' → ∃ m', m' < m ∧ W (i + 1) m' H') ∧ ∀ x H', (Itr 0 n).yld i H x H' → gName j x (wipe σ [j]) H' fun σ2 H2 => wipe σ2 [j] = wipe σ [j] ∧ tYes σ2 H2 fun b H3 =>
        if b = true then te σ2 H3 fun y H4 => ∃ acc, H4 D = some (.lst acc) ∧ acc.length < sizeLine ∧ Nx (upd H4 D (.lst (acc ++ [y]))) else Nx H3) := by
  refine lc_range (lo := 0) (n := n) (g := gName j) (tt := tYes) (te := te) (vs := [j]) (σ := σ) (Lcv D o H) ⟨upd_same, Evl.Ex.new hD⟩ (fun i Hc hi h => ?_) hd
  refine ⟨wipe_set, ?_⟩
  unfold tYes
  simp only [if_true]
  rw [Int.zero_add]
  refine hs i Hc _ hi h.2 fun H4 e => ⟨_, e _ _ h.1, by rw [List.length_map, List.length_range, sizeLine_eq]; omega, ?_, fun a u ha => ?_⟩
  · rw [upd_same, List.range_succ, List.map_append]
    rfl
  · rw [upd_ne (ne_of_none ha hD)]
    exact e _ _ (h.2 _ _ ha)
end Rm
namespace Rm
open PySem PySem.W PySem.Calls PyProof.Rows PySem.Spec L2
/-! which error is of which class: one check over the written part -/
def kitAll (K : Frag) (as : List Addr) : Bool := (List.range as.length).all fun i => (List.range as.length).all fun j => kitOne K (.ref (as.getD i 0)) (.ref (as.getD j 0)) == some (decide (i = j))
theorem kitAll_at {K : Frag} {as : List Addr} (h : kitAll K as = true) {i j : Nat} (hi : i < as.length) (hj : j < as.length) : kitOne K (.ref (as.getD i 0)) (.ref (as.getD j 0)) = some (decide (i = j)) := by
  unfold kitAll at h
  rw [List.all_eq_true] at h
  have h1 := h i (List.mem_range.mpr hi)
  rw [List.all_eq_true] at h1
  exact eq_of_beq (h1 j (List.mem_range.mpr hj))
/-- the families: ks tells each error's family, in the order of as -/
def famAll (K : Frag) (as : List Addr) (ks : List Nat) (fs : List Value) : Bool := (List.range as.length).all fun i => (List.range fs.length).all fun j => kitOne K (.ref (as.getD i 0)) (fs.getD j .none) == some (decide (ks.getD i 0 = j))
theorem famAll_at {K : Frag} {as : List Addr} {ks : List Nat} {fs : List Value} (h : famAll K as ks fs = true) {i j : Nat} (hi : i < as.length) (hj : j < fs.length) : kitOne K (.ref (as.getD i 0)) (fs.getD j .none) = some (decide (ks.getD i 0 = j)) := by
  unfold famAll at h
  rw [List.all_eq_true] at h
  have h1 := h i (List.mem_range.mpr hi)
  rw [List.all_eq_true] at h1
  exact eq_of_beq (h1 j (List.mem_range.mpr hj))
def noneAll (K : Frag) (as : List Addr) (us : List Value) : Bool := (List.range as.length).all fun i => kitAny K (.ref (as.getD i 0)) us == some false
theorem noneAll_at {K : Frag} {as : List Addr} {us : List Value} (h : noneAll K as us = true) {i : Nat} (hi : i < as.length) : kitAny K (.ref (as.getD i 0)) us = some false := by
  unfold noneAll at h
  rw [List.all_eq_true] at h
  exact eq_of_beq (h i (List.mem_range.mpr hi))
end Rm
namespace Rm
open PySem PySem.W PySem.Calls PyProof.Rows PySem.Spec L2
theorem XAll.get {H : Hp} {v : V} : ∀ {cs : List (Addr × Str)} {xs : List V} (i : Nat) {c : Addr × Str}, XAll H v cs xs → cs[i]? = some c → ∃ a d, xs[i]? = some (.ref a) ∧ H a = some (xV a (.ref c.1) (some d) true) ∧ H d = some (.xd [(c.2, v)])
  | c :: cs, x :: xs, 0, _, h, e => by
    simp at e
    subst e
    obtain ⟨a, d, rfl, h1, h2⟩ := h.1
    exact ⟨a, d, rfl, h1, h2⟩
  | c :: cs, x :: xs, i + 1, _, h, e => by
    obtain ⟨a, d, h1, h2⟩ := XAll.get i h.2 (by simpa using e)
    exact ⟨a, d, by simpa using h1, h2⟩
  | [], _, _, _, _, e => by simp at e
  | _ :: _, [], _, _, h, _ => h.elim
theorem atI_nat {xs : List V} {i : Nat} {x : V} (h : xs[i]? = some x) : atI xs (i : Int) = some x := by
  have hi : i < xs.length := by
    by_cases hi : i < xs.length
    · exact hi
    · rw [List.getElem?_eq_none (by omega)] at h; cases h
  have e : ixN xs.length (i : Int) = some i := by
    unfold ixN
    rw [if_pos (by omega), if_pos (by omega), Int.toNat_natCast]
  unfold atI
  rw [e]
  exact h
end Rm
namespace Rm
open PySem PySem.W PySem.Calls PyProof.Rows PySem.Spec L2
theorem DpAll.rep {K : Frag} {H : Hp} {v : V} {d : PyData} (h : Dp K H v d) : ∀ n, DpAll K H (List.replicate n v) (List.replicate n d)
  | 0 => .nil
  | n + 1 => .cons h (DpAll.rep h n)
end Rm
/-! An own class of errors, all that is written of it in one bundle. -/
namespace Rm
open PySem PySem.W PySem.Calls PyProof.Rows PySem.Spec L2
theorem clsSome {K : Frag} {C : Addr} (h : hasDictIn K C = true) : ∃ cd, clsIn K C = some cd := by
  unfold hasDictIn at h
  cases e : clsIn K C with
  | none => rw [e] at h; cases h
  | some cd => exact ⟨cd, rfl⟩
structure XB (P : Program) (K : Frag) (mg : Str → Option Value) (B newId initId : String) (bm : List Value) (fld : Str) (C : Addr) : Prop where
  k : keepIn K (.ref C) = true
  x : XCls P K mg B newId initId bm fld C
  z : ∀ X : Cx, X.K = K → Raises X (.ref C)
  t : XKit K C
  h : findIn K (.ref C) fld = some none
theorem xmk {P : Program} {K : Frag} {h : Heap} {mg : Str → Option Value} {B newId initId : String} {bm : List Value} {fld : Str} {C : Addr} (fb : ExcBaseFacts B newId initId bm) (kf : KxsFacts B initId) (sf : StoreFacts B bm "object.__setattr__" "object") (X : K.In h) (G : h.Ns mainGlobals mg)
    {fI : Addr} {cc : Addr} {cda : Addr} {xoc : Value} {xdV : Value} {xkV : Value} {xdoc : Value} {xpm : Value} {xct : Value} {xcl : Value} {xccl : Value} {xod : Option Addr} {xan : Option Addr} {xcld : Option Addr} {xcdd : Option Addr} {xosl : Array (Option Value)} {xcsl : Array (Option Value)} {xccs : Array (Option Value)} {xqual : Str} {xmsg : Str} {xfile : Str} {xpar : Arguments} {xsc : Scope} {xkk : Nat} {xtf : Tok} {xvs : Array Value} {xp0 xp1 xp2 xp3 xp4 xp5 xp6 xp7 xp8 xp9 : Pos}
    (kp : keepIn K (.ref C) = true)
    (ei : excInitIn K C bm newId = true)
    (eo : excOver K C bm = true)
    (fi : findIn K (.ref C) "__init__" = some (some (.ref fI)))
    (iF : isFn K (.ref fI) = true)
    (lf : K.lookup fI = some ⟨xoc, xod, .func (ksFn "__init__" xqual xpar (xBody xmsg fld xp0 xp1 xp2 xp3 xp4 xp5 xp6 xp7 xp8 xp9 xkk) xsc xdV xkV xdoc xpm xan (.ref cda) xct cc), xosl⟩)
    (co : codeIn K (.ref cda) xqual = true)
    (lc : K.lookup cc = some ⟨xcl, xcld, .cell (some (.ref C)), xcsl⟩)
    (ld : K.lookup cda = some ⟨xccl, xcdd, .fields xvs, xccs⟩)
    (lv : xvs[2]? = some (.str xfile xtf))
    (le : (P.main.file == xfile) = true)
    (lh : (xpar.posonlyargs ++ xpar.args).head?.map (·.arg) = some ("self" : Str))
    (b1 : ∀ (s : Shared) (a b : Value), BindsTo s (ksFn "__init__" xqual xpar (xBody xmsg fld xp0 xp1 xp2 xp3 xp4 xp5 xp6 xp7 xp8 xp9 xkk) xsc xdV xkV xdoc xpm xan (.ref cda) xct cc) ⟨[a, b], []⟩ [("self", a), (fld, b)])
    (b2 : ∀ (s : Shared) (a b : Value), BindsTo s (ksFn "__init__" xqual xpar (xBody xmsg fld xp0 xp1 xp2 xp3 xp4 xp5 xp6 xp7 xp8 xp9 xkk) xsc xdV xkV xdoc xpm xan (.ref cda) xct cc) ⟨[a], [(fld, b)]⟩ [("self", a), (fld, b)])
    (s0 : xsc.names.lookup ("super" : Str) = some .globalImplicit)
    (s1 : xsc.names.lookup ("__class__" : Str) = some .free)
    (s2 : xsc.names.lookup ("self" : Str) = some .local)
    (s3 : xsc.names.lookup fld = some .local)
    (s4 : ∀ x ∈ xsc.names, x.2 ≠ .cell)
    (s5 : xsc.isCoroutine = false)
    (s6 : xsc.isGenerator = false)
    (s7 : xsc.kind = .function)
    (ev : ∀ L : Addr, ∃ pl : Sem Bool, eval (.Call (.Attribute (.Call (.Name "super" xp0) [] [] xp1) "__init__" xp2) [.Constant (.str xmsg) xkk xp3] [] xp4) (ksEnv xqual xsc L fI (.ref cda) cc) = (do let ov ← attributeBase (.Call (.Name "super" xp0) [] [] xp1) "__init__" (ksEnv xqual xsc L fI (.ref cda) cc) (eval (.Call (.Name "super" xp0) [] [] xp1) (ksEnv xqual xsc L fI (.ref cda) cc)); standAt xp2.atName; let (g, first) ← holding [ov] (getMethod ov "__init__" pl); callWith xp4 g first (backTo xp4 (starEach [.Constant (.str xmsg) xkk xp3] (ksEnv xqual xsc L fI (.ref cda) cc))) []))
    (f1 : ¬ ("self" : Str) = fld)
    (f2 : (fld == ("__debug__" : Str)) = false)
    (f3 : (fld == ("__classdict__" : Str)) = false)
    (nsu : nsIn K mainGlobals "super" = some none)
    (su : ks_superIn K C C "__init__" = some (some (.builtin initId)))
    (sB : subIn K (.ref C) (.type B) = some true)
    (sC : subIn K (.ref C) (.ref C) = some true)
    (op : nsIn K cStatics "thirdparty.any" = some none)
    (sa : findIn K (.ref C) "__setattr__" = some (some (.builtin "object.__setattr__")))
    (tk : takerIn K C fld = some none)
    (hd : hasDictIn K C = true)
    (tp : (P.main.scope.names.lookup ("super" : Str)).isSome = false)
    (ex : subIn K (.ref C) (.type "BaseException") = some true)
    (ty : typeIn K (.ref C) = some (.type "type"))
    (ga : findIn K (.ref C) "__getattribute__" = some (some (.builtin "BaseException.__getattribute__")))
    (gg : findIn K (.ref C) "__getattr__" = some none)
    (ha : findIn K (.ref C) "__class__" = some (some (.builtin "object.__class__")))
    (hn : specialIn K (.builtin "object.__class__") "__get__" = some (some (.builtin "getset_descriptor.__get__")))
    (ht : takesIn K (.builtin "object.__class__") = some true)
    (hm : mroIn K C (.type "object") = some true)
    (hf : findIn K (.ref C) fld = some none) : XB P K mg B newId initId bm fld C :=
  ⟨kp, ⟨fb, kf, sf, ei, eo, ⟨_, _, _, _, _, _, _, _, _, _, _, _, _, _, _, _, _, _, _, _, _, _, _, _, _, _, _, _, _, _, _, _, _, _, _, _, fi, iF, lf, co, lc, ld, lv, le, lh, b1, b2, s0, s1, s2, s3, s4, s5, s6, s7, ev⟩, f1, f2, f3, mg_none_of X G nsu, clsSome hd, su, sB, sC, op, sa, tk, hd, tp⟩, fun Y e => raises_own (by rw [e]; exact ex) (by rw [e]; exact ty), ⟨by obtain ⟨cd, e⟩ := clsSome hd; rw [e]; rfl, ga, gg, ex, hd, ha, hn, ht, hm⟩, hf⟩
end Rm
/-! Plain mathematics of numbers' texts: what a text tells, by the program and by the law. -/
namespace Rm
open PySem SX
def isDig (c : Nat) : Bool := decide (48 ≤ c) && decide (c ≤ 57)
/-- a run of one to 420 digits without a zero ahead -/
def canon (l : List Nat) : Bool := decide (1 ≤ l.length) && decide (l.length ≤ 420) && l.all isDig && !(decide (l.head? = some 48) && decide (1 < l.length))
def intOf (l : List Nat) : Option Nat := if canon l = true then some (NumText.digitsVal l) else none
theorem canon_digits {l : List Nat} (h : canon l = true) : NumText.AllDigits l ∧ l ≠ [] ∧ l.length ≤ 420 := by
  simp only [canon, Bool.and_eq_true, decide_eq_true_eq, List.all_eq_true, isDig] at h
  exact ⟨fun c hc => h.1.2 c hc, fun z => by rw [z] at h; simp at h, h.1.1.2⟩
/-- such a run is the text of what it tells -/
theorem canon_text {l : List Nat} (h : canon l = true) : TL.numL (NumText.digitsVal l) = l := by
  obtain ⟨hd, hn, hl⟩ := canon_digits h
  have mp : ∀ cs : List Nat, NumText.AllDigits cs → (cs.map Char.ofNat).map Char.toNat = cs := by
    intro cs hcs
    rw [List.map_map]
    conv => rhs; rw [← List.map_id cs]
    refine List.map_congr_left fun c hc => ?_
    have hb := hcs c hc
    have : ∀ n : Nat, n < 58 → (Char.ofNat n).toNat = n := by decide
    exact this c (by omega)
  cases l with
  | nil => exact absurd rfl hn
  | cons c r =>
    unfold TL.numL
    by_cases h0 : c = 48
    · have hr : r = [] := by
        simp only [canon, Bool.and_eq_true, Bool.not_eq_true', Bool.and_eq_false_iff, decide_eq_true_eq, decide_eq_false_iff_not] at h
        rcases h.2 with z | z
        · exact absurd (by rw [h0]; rfl) z
        · cases r with
          | nil => rfl
          | cons _ _ => simp at z
      subst h0 hr
      decide
    · rw [NumText.toDigits_digitsVal r.length (c :: r) rfl hd (.inr ⟨c, r, rfl, by have := hd c (List.mem_cons_self ..); omega⟩)]
      exact mp _ hd
theorem canon_inj {l m : List Nat} (h1 : canon l = true) (h2 : canon m = true) (e : NumText.digitsVal l = NumText.digitsVal m) : l = m := by
  rw [← canon_text h1, ← canon_text h2, e]
theorem canon_num {n : Nat} (h : n < 10 ^ 420) : canon (TL.numL n) = true := by
  have hd := TL.numL_digits n
  have hn := TL.numL_ne n
  have hl := TL.numL_len (k := 420) (by decide) h
  simp only [canon, Bool.and_eq_true, Bool.not_eq_true', Bool.and_eq_false_iff, decide_eq_true_eq, decide_eq_false_iff_not, List.all_eq_true, isDig]
  refine ⟨⟨⟨List.length_pos_iff.mpr hn, hl⟩, fun c hc => hd c hc⟩, ?_⟩
  by_cases h0 : (TL.numL n).head? = some 48
  · refine .inr ?_
    have lead : ∀ m : Nat, 0 < m → ∃ c r, TL.numL m = c :: r ∧ c ≠ 48 := by
      intro m
      induction m using Nat.strongRecOn with
      | _ m ih =>
        intro hm
        by_cases h10 : m < 10
        · exact ⟨48 + m, [], TL.numL_lt h10, by omega⟩
        · obtain ⟨c, r, e, hc⟩ := ih (m / 10) (by omega) (by omega)
          exact ⟨c, r ++ [48 + m % 10], by rw [TL.numL_step (by omega), e]; rfl, hc⟩
    by_cases hz : n = 0
    · rw [hz, TL.numL_lt (by decide)]
      decide
    · obtain ⟨c, r, e, hc⟩ := lead n (by omega)
      rw [e] at h0
      exact absurd (Option.some.inj h0) hc
  · exact .inl h0
/-- the text of a number -/
def sgnL (neg : Bool) (a : Nat) : List Nat := if neg = true ∧ a ≠ 0 then 45 :: TL.numL a else TL.numL a
def numT (neg : Bool) (a b : Nat) : List Nat := if b = 1 then sgnL neg a else sgnL neg a ++ (47 :: TL.numL b)
def sgI (neg : Bool) (a : Nat) : Int := if neg = true then -(a : Int) else a
/-- the sign of a text, what follows it -/
def negOf (w : List Nat) : Bool := decide (w.head? = some 45)
def restOf (w : List Nat) : List Nat := if negOf w = true then w.drop 1 else w
/-- number_of -/
def numOf (w : List Nat) : Option (Int × Int) :=
  let p := (TL.par [47] [] (restOf w)).getD (restOf w, [])
  let s := (TL.par [47] [] (restOf w)).isSome
  match intOf p.1, (if s then intOf p.2 else some 1) with
  | some a, some b => if (1 ≤ b ∧ Nat.gcd a b = 1) ∧ numT (negOf w) a b = w then some (sgI (negOf w) a, (b : Int)) else none
  | _, _ => none
/-- the law's own -/
def lawNum (w : List Nat) : Option (Int × Int) :=
  let parts := TL.spl [47] 0 [] (restOf w)
  if 2 < parts.length ∨ parts.all canon = false then none else
  let a := NumText.digitsVal (parts.headD [])
  let b := if parts.length = 2 then NumText.digitsVal (parts.getLastD []) else 1
  if (parts.length = 2 ∧ b < 2) ∨ (negOf w = true ∧ a = 0) then none else
  if Nat.gcd a b ≠ 1 then none else some (sgI (negOf w) a, (b : Int))
theorem rest_app (w : List Nat) : w = (if negOf w = true then [45] else []) ++ restOf w := by
  unfold restOf
  by_cases h : negOf w = true
  · rw [if_pos h, if_pos h]
    have := of_decide_eq_true h
    cases w with
    | nil => cases this
    | cons c r => rw [Option.some.inj this]; rfl
  · rw [if_neg h, if_neg h]
    rfl
theorem canon_47 {l : List Nat} (h : canon l = true) : 47 ∉ l := fun hm => by
  have := (canon_digits h).1 47 hm
  omega
theorem num_of_nil (x : List Nat) : NumText.digitsVal x = NumText.digitsVal x := rfl
theorem split_at : ∀ l : List Nat, 47 ∈ l → ∃ p q, l = p ++ (47 :: q) ∧ 47 ∉ p := by
  intro l
  induction l with
  | nil => intro h; cases h
  | cons c r ih =>
    intro h
    by_cases hc : c = 47
    · exact ⟨[], r, by rw [hc]; rfl, by simp⟩
    · obtain ⟨p, q, e, hp⟩ := ih (by
        rcases List.mem_cons.mp h with z | z
        · exact absurd z.symm hc
        · exact z)
      exact ⟨c :: p, q, by rw [e]; rfl, fun hm => by
        rcases List.mem_cons.mp hm with z | z
        · exact hc z.symm
        · exact hp z⟩
theorem spl_len (l : List Nat) : ∀ acc, 1 ≤ (TL.spl [47] 0 acc l).length := by
  induction l with
  | nil => intro acc; rw [TL.spl_nil]; exact Nat.le_refl _
  | cons c r ih =>
    intro acc
    cases h : TL.pre [47] (c :: r) with
    | true => rw [TL.spl_hit h, List.length_cons]; omega
    | false => rw [TL.spl_miss h]; exact ih _
theorem lawNum_eq (w : List Nat) : lawNum w = numOf w := by
  have hw := rest_app w
  by_cases hs : 47 ∈ restOf w
  · obtain ⟨p, q, e, hp⟩ := split_at _ hs
    have e1 : TL.par [47] [] (restOf w) = some (p, q) := by
      rw [e]
      exact TL.par_part1 (S := []) (acc := []) hp
    have e2 : TL.spl [47] 0 [] (restOf w) = p :: TL.spl [47] 0 [] q := by
      rw [e]
      exact TL.spl_part1 (S := []) (acc := []) hp
    unfold lawNum numOf
    simp only [e1, e2, Option.getD_some, Option.isSome_some, if_true]
    by_cases hq : 47 ∈ q
    · obtain ⟨p2, q2, e3, hp2⟩ := split_at _ hq
      have e4 : TL.spl [47] 0 [] q = p2 :: TL.spl [47] 0 [] q2 := by
        rw [e3]
        exact TL.spl_part1 (S := []) (acc := []) hp2
      have e5 : intOf q = none := if_neg fun z => canon_47 z hq
      have := spl_len q2 []
      rw [e4, e5, if_pos (.inl (by simp only [List.length_cons]; omega))]
      cases intOf p <;> rfl
    · have e4 : TL.spl [47] 0 [] q = [q] := TL.spl_last1 (S := []) (acc := []) hq
      rw [e4]
      by_cases c1 : canon p = true
      · by_cases c2 : canon q = true
        · have i1 : intOf p = some (NumText.digitsVal p) := if_pos c1
          have i2 : intOf q = some (NumText.digitsVal q) := if_pos c2
          have t1 := canon_text c1
          have t2 := canon_text c2
          rw [i1, i2, if_neg (by simp [c1, c2])]
          simp only [List.headD_cons, List.length_cons, List.length_nil, if_true, List.getLastD_cons, List.getLastD_nil]
          generalize NumText.digitsVal p = a at *
          generalize NumText.digitsVal q = b at *
          have ew : w = (if negOf w = true then [45] else []) ++ (TL.numL a ++ (47 :: TL.numL b)) := by rw [t1, t2, ← e]; exact hw
          by_cases hb : b < 2
          · rw [if_pos (.inl ⟨trivial, hb⟩), if_neg fun z => ?_]
            have hb1 : b = 1 := by omega
            have z2 := z.2
            unfold numT at z2
            rw [if_pos hb1] at z2
            have hm : 47 ∈ sgnL (negOf w) a := by
              rw [z2, ew]
              simp
            unfold sgnL at hm
            split at hm
            · rcases List.mem_cons.mp hm with z | z
              · cases z
              · exact TL.numL_free (.inl (by decide)) z
            · exact TL.numL_free (.inl (by decide)) hm
          · by_cases hg : Nat.gcd a b = 1
            · have ha : a ≠ 0 := fun z => by
                rw [z, Nat.gcd_zero_left] at hg
                omega
              have hT : numT (negOf w) a b = w := by
                unfold numT sgnL
                rw [if_neg (by omega)]
                by_cases hn : negOf w = true
                · rw [if_pos ⟨hn, ha⟩]
                  rw [if_pos hn] at ew
                  exact ew.symm
                · rw [if_neg fun z => hn z.1]
                  rw [if_neg hn] at ew
                  exact ew.symm
              rw [if_neg (by rintro (z | z); exact hb z.2; exact ha z.2), if_neg (by simpa using hg), if_pos ⟨⟨by omega, hg⟩, hT⟩]
            · have : ¬ ((1 ≤ b ∧ Nat.gcd a b = 1) ∧ numT (negOf w) a b = w) := fun z => hg z.1.2
              rw [if_neg this, if_pos hg]
              split <;> rfl
        · have i2 : intOf q = none := if_neg c2
          rw [i2, if_pos (.inr (by simp [c2]))]
          cases intOf p <;> rfl
      · have i1 : intOf p = none := if_neg c1
        rw [i1, if_pos (.inr (by simp [c1]))]
  · have e1 : TL.par [47] [] (restOf w) = none := TL.par_none1 (S := []) hs
    have e2 : TL.spl [47] 0 [] (restOf w) = [restOf w] := TL.spl_last1 (S := []) (acc := []) hs
    unfold lawNum numOf
    simp only [e1, e2, Option.getD_none, Option.isSome_none, Bool.false_eq_true, if_false]
    by_cases c1 : canon (restOf w) = true
    · have i1 : intOf (restOf w) = some (NumText.digitsVal (restOf w)) := if_pos c1
      have t1 := canon_text c1
      rw [i1, if_neg (by simp [c1])]
      simp only [List.headD_cons, List.length_cons, List.length_nil]
      have one : (0 + 1 = 2) = False := by simp
      simp only [one, if_false, false_and, false_or]
      generalize NumText.digitsVal (restOf w) = a at *
      have ew : w = (if negOf w = true then [45] else []) ++ TL.numL a := by rw [t1]; exact hw
      have g1 : Nat.gcd a 1 = 1 := Nat.gcd_one_right a
      by_cases hn : negOf w = true ∧ a = 0
      · rw [if_pos hn, if_neg fun z => ?_]
        have z2 := z.2
        unfold numT sgnL at z2
        rw [if_pos rfl, if_neg fun z => z.2 hn.2] at z2
        rw [if_pos hn.1, ← z2] at ew
        have := congrArg List.length ew
        simp at this
      · have hT : numT (negOf w) a 1 = w := by
          unfold numT sgnL
          rw [if_pos rfl]
          by_cases hn2 : negOf w = true
          · rw [if_pos ⟨hn2, fun z => hn ⟨hn2, z⟩⟩]
            rw [if_pos hn2] at ew
            exact ew.symm
          · rw [if_neg fun z => hn2 z.1]
            rw [if_neg hn2] at ew
            exact ew.symm
        rw [if_neg hn, if_neg (by simpa using g1), if_pos ⟨⟨Nat.le_refl _, g1⟩, hT⟩]
    · have i1 : intOf (restOf w) = none := if_neg c1
      rw [i1, if_pos (.inr (by simp [c1]))]
end Rm
/-! Lambdas without parameters handed to a def that calls them within try, where what they call may raise. -/
namespace Rm
open PySem PySem.W PySem.Calls PyProof.Rows PySem.Spec L2 LamX
section
variable {X : Cx} {pins : List (Addr × Obj)} {σ : L2.St} {H HZ : Hp} {s : Shared}
/-- the call of what was handed over, in the def that got it (entered at s) -/
theorem act_run {CXg : CXT} {Eg : XK} {Ng : List Str} {qg : Str} {sg : Scope} {g f c' : Addr} {cdg pm ctv : Value} {params : Arguments} {body : Expr} {scope : Scope} {k i : Nat} {a : Str} {pn : List (Addr × Obj)} {xe : Value → Shared → Prop} {W : WX} {tb : XK → TE} {p1 p2 : Pos}
    (I : Inv X pins σ H s) (L : LamS X.env.scope scope)
    (hf : s.heap.get? f = some (kla_obj "<lambda>" (X.env.qual ++ "<lambda>") params body scope (cloFrom X.env.cells scope.names []) pm c' ctv)) (hfn : H f = none) (hfr : f ∉ frs X.stack)
    (hbind : bindArgs (kla_fn "<lambda>" (X.env.qual ++ "<lambda>") params body scope (cloFrom X.env.cells scope.names []) pm (.ref c') ctv) ⟨[], []⟩ = pure [])
    (tk : Takes ((cxOf CXg X.prog X.w X.K X.mg X.base Ng qg sg g cdg X.A X.stack s H Eg).tr pn xe) W) (hr : Room (k + 1) (X.A.deeper (envOfC qg sg s.heap.objs.size g cdg)))
    (hbody : ∀ (E : XK) (s2 : Shared) (H2 : Hp), Room k ((X.A.deeper (envOfC qg sg s.heap.objs.size g cdg)).deeper (lamEnv X scope s2.heap.objs.size f c')) →
      PE (lamCx X (X.A.deeper (envOfC qg sg s.heap.objs.size g cdg)) (envOfC qg sg s.heap.objs.size g cdg :: X.stack) s2 H2 E scope f c') body (tb E))
    (hN : Ng[i]? = some a) (hv : Vis sg a) (hd : (a == ("__debug__" : Str)) = false) (hcd : (a == ("__classdict__" : Str)) = false) :
    PE ((cxOf CXg X.prog X.w X.K X.mg X.base Ng qg sg g cdg X.A X.stack s H Eg).tr pn xe) (.Call (.Name a p1) [] [] p2)
      (fun τ G R => τ[i]? = some (some (.ref f)) ∧ G c' = some (CodeO c' (X.env.qual ++ "<lambda>")) ∧ tb (WE W τ) σ G R) := by
  refine ⟨fun pz sz τ G R IZ h => ?_⟩
  obtain ⟨h1, h2, h3⟩ := h
  refine wpAny_Call_Name_kw (thn ((pe_var (pos := p1) (i := i) hN hv hd hcd).run pz sz τ G (fun v G1 => v = .ref f ∧ G1 = G) IZ ⟨.ref f, h1, rfl, rfl⟩) fun u s1 ⟨v, G1, I1, r1, q1⟩ => ?_)
  rcases q1 with ⟨rfl, rfl⟩
  cases r1
  have fAt : s1.heap.get? f = some (kla_obj "<lambda>" (X.env.qual ++ "<lambda>") params body scope (cloFrom X.env.cells scope.names []) pm c' ctv) :=
    I1.base.keep f _ hf hfn hfr (fun z => nomatch (show f ∈ ([] : List Addr) from z))
  refine callWith_F0 ⟨_, _, _, _, fAt⟩ (wpAny_call ?_)
  obtain ⟨⟨oc, vs, t, k1, k2, k3⟩, _⟩ := I1.hok c' _ h2
  have un : Un (frs X.stack) [] H G1 s.heap s1.heap := I1.base
  have run : codeAny (model X.prog X.w) (X.A.deeper (envOfC qg sg s.heap.objs.size g cdg)) (.call (.ref f) ⟨[], []⟩) (CR (L2.CX X.prog X.w) (envOfC qg sg s.heap.objs.size g cdg :: X.stack) X.prog X.w G1 s1 R (WE W τ)) s1 := by
    refine kla_callFunE hr.depth fAt rfl L.co L.gen rfl ⟨c', oc, vs, t, rfl, k1, k2, k3⟩ ?_
    rw [hbind]
    refine wpAny_pure (wpAny_newFunctionEnv (fun y hy => (L.own y hy).2) (fun y hy => absurd hy (by simp)) (fun h₁ hns hsb => ⟨I1.nolimit.fresh _ hsb, ?_⟩) L.kind)
    have kp : ∀ b o, s1.heap.get? b = some o → h₁.get? b = some o := fun b o e => hsb.extBut b o (Nat.ne_of_lt (Heap.lt_size e)) (Heap.get?_push_of_some _ e)
    refine kla_codeExpr (wpAny_mono ((hbody (WE W τ) s1 G1 (hr.deeper _)).run [] _ _ G1 R (lam_start2 I L I1.env0 hr.hd un hns kp) h3) (fun v s' hq => ?_) fun e s' hq => hq)
    obtain ⟨w', H', J, rv, q⟩ := hq
    exact ⟨w', H', J.os, J.bare, J.base, J.hok, rv, q⟩
  refine codeAny_mono run fun r s' hq => ?_
  cases r with
  | error e => exact passAt tk τ pz G1 s1 e s' I1 hq
  | ok fl =>
    cases fl with
    | ret u => exact I1.after hq
    | next => exact hq.elim
    | brk => exact hq.elim
    | cont => exact hq.elim
end
/-- what the def that gets it makes of the call of a -/
def Gives (P : Program) (w : World) (K : Frag) (mg : Str → Option Value) (base : Heap) (k : Nat) (Ng : List Str) (x : Str) (sg : Scope) (g : Addr) (cdg : Value) (bg : List Stmt) (a : Str) (TT : (XK → Hp → VK → Prop) → Hp → VK → XK → Prop) : Prop :=
  ∀ (q : Str) (A : Around) (outer : List Env) (f c' : Addr) (s : Shared) (H : Hp) (Q : VK) (E : XK) (tl : XK → Hp → VK → Prop), Room k (A.deeper (envOfC x sg s.heap.objs.size g cdg)) → A.guards = some [] →
    (∀ (W : WX) (pn : List (Addr × Obj)) (xe : Value → Shared → Prop) (p1 p2 : Pos), Takes ((cxOf (L2.CX P w) P w K mg base Ng x sg g cdg A outer s H E).tr pn xe) W →
      PE ((cxOf (L2.CX P w) P w K mg base Ng x sg g cdg A outer s H E).tr pn xe) (.Call (.Name a p1) [] [] p2) (fun τ G R => τ[0]? = some (some (.ref f)) ∧ G c' = some (CodeO c' q) ∧ tl (WE W τ) G R)) →
    H c' = some (CodeO c' q) → TT tl H Q E →
    ∃ t, PSs (cxOf (L2.CX P w) P w K mg base Ng x sg g cdg A outer s H E) bg t ∧ t { nx := fun _ H' => Q .non H', rt := Q } (L2.start Ng [.ref f]) H
/-- a def of one parameter that calls it -/
def Tel (P : Program) (w : World) (K : Frag) (mg : Str → Option Value) (base : Heap) (k : Nat) (x : Str) (g : Addr) (TT : (XK → Hp → VK → Prop) → Hp → VK → XK → Prop) : Prop :=
  ∃ (a : Str) (pg : Arguments) (bg : List Stmt) (sg : Scope) (dV kV doc pm cdv ct oc : Value) (an od : Option Addr) (osl : Array (Option Value)) (Ng : List Str),
    K.lookup g = some ⟨oc, od, .func (fnOf x x pg bg sg dV kV doc pm an cdv ct), osl⟩ ∧ codeIn K cdv x = true ∧ Binds K (fnOf x x pg bg sg dV kV doc pm an cdv ct) [a] [] ∧ FnScope Ng [a] sg ∧ Ng[0]? = some a ∧ Vis sg a ∧
    (a == ("__debug__" : Str)) = false ∧ (a == ("__classdict__" : Str)) = false ∧ Gives P w K mg base k Ng x sg g cdv bg a TT
def tLamG (T : List (Addr × Str)) (TT : (XK → Hp → VK → Prop) → Hp → VK → XK → Prop) (W : WX) (t : XK → TE) : TE := fun σ H Q =>
  Tabs T H ∧ ∀ H1, ExtN H H1 → Tabs T H1 → TT (fun E H' Q' => t E σ H' Q') H1 Q (WE W σ)
section
variable {X : Cx}
/-- x(lambda: body) -/
theorem pe_lamG {T : List (Addr × Str)} {TT : (XK → Hp → VK → Prop) → Hp → VK → XK → Prop} {W : WX} {x : Str} {g c P : Addr} {k j : Nat} {params : Arguments} {body : Expr} {scope : Scope} {t : XK → TE} {p lpos pos : Pos}
    (F : Tel X.prog X.w X.K X.mg X.base k x g TT) (hr : Room (j + 2) X.A) (hkj : k ≤ j + 1) (hgd : X.A.guards = some []) (tko : Takes X W) (hg : Gl X x) (hm : X.mg x = some (.ref g)) (hk : keepIn X.K (.ref g) = true)
    (TB : TabB X.base X.mg c P) (hcode : X.env.code = .ref c) (hmT : (P, X.env.qual ++ "<lambda>") ∈ T) (hu : ∀ p ∈ T, p.1 = P → p.2 = X.env.qual ++ "<lambda>") (L : LamS X.env.scope scope) (hdef : defaultsOf params X.env = ([], []))
    (hbind : ∀ (q : Str) (cl : List (Str × Addr)) (pm cv ctv : Value), bindArgs (kla_fn "<lambda>" q params body scope cl pm cv ctv) ⟨[], []⟩ = pure [])
    (hbody : ∀ (E : XK) (A : Around) (outer : List Env) (s2 : Shared) (H2 : Hp) (f c' : Addr), Room j (A.deeper (lamEnv X scope s2.heap.objs.size f c')) → A.guards = some [] → PE (lamCx X A outer s2 H2 E scope f c') body (t E))
    (hdb : (x == ("__debug__" : Str)) = false := by decide) :
    PE X (.Call (.Name x p) [.Lambda params body scope lpos] [] pos) (tLamG T TT W t) := by
  obtain ⟨a, pg, bg, sg, dV, kV, doc, pm, cdv, ct, oc, an, od, osl, Ng, lk, hcg, hb, Sg, hNg, hva, hda, hdc, G⟩ := F
  refine ⟨fun pins s σ H Q I h => ?_⟩
  obtain ⟨hT, h⟩ := h
  refine wpAny_Call_Name_kw (ld_glob I hg hm ?_ hdb)
  refine callWith_K (h₀ := X.base) I.ok.mod.kin hk ?_ (by rfl) (by rfl)
  refine Calls.spliced_cons (lam_make2 I TB hcode hmT hu hT hdef (L.has I.ok) fun f c' pm' ctv H1 s1 I1 eN T1 hf hfn hfr hco => ?_)
  refine Calls.spliced_nil ⟨I1.kIn, wpAny_call ?_⟩
  have run : codeAny (model X.prog X.w) X.A (.call (.ref g) ⟨[.ref f], []⟩) (CR (L2.CX X.prog X.w) X.stack X.prog X.w H1 s1 Q (WE W σ)) s1 := by
    refine run_ofS (k := j + 1) (N := Ng) (ps := [a]) (us := [.ref f]) (vs := [.ref f]) lk hcg Sg hr I1.env0 (hb s1 [.ref f] I1.kIn rfl) (.cons rfl .nil) rfl fun hr' => ?_
    exact G _ X.A X.stack f c' s1 H1 Q (WE W σ) (fun E H' Q' => t E σ H' Q') (hr'.mono hkj) hgd
      (fun W' pn xe p1 p2 tk => act_run (i := 0) I1 L hf hfn hfr (hbind _ _ _ _ _) tk hr' (fun E s2 H2 hr2 => hbody E _ _ s2 H2 f c' hr2 hgd) hNg hva hda hdc) hco (h H1 eN T1)
  refine codeAny_mono run fun r s2 hq => ?_
  cases r with
  | error e => exact passAt tko σ pins H1 s1 e s2 I1 hq
  | ok fl =>
    cases fl with
    | ret u => exact I1.after hq
    | next => exact hq.elim
    | brk => exact hq.elim
    | cont => exact hq.elim
end
end Rm
namespace Rm
open PySem PySem.W PySem.Calls PyProof.Rows PySem.Spec L2 LamX
/-- a def that makes lambdas: its code object is known by its address -/
theorem Fun_okC {P : Program} {w : World} {K : Frag} {mg : Str → Option Value} {base : Heap} {k : Nat} {f c : Addr} {fd : FuncData} {ps : List Str} {spB : Sp} {x qual : Str} {st : Stmt} {N : List Str} (F : Fun K x qual st f fd) (hc : fd.code = .ref c) (S : FnScope N ps (defScope st))
    (hbody : ∀ (A : Around) (outer : List Env) (s : Shared) (H : Hp) (vs : List V) (Q : VK) (E : XK), Room k (A.deeper (envOfC qual (defScope st) s.heap.objs.size f (.ref c))) → A.guards = some [] → spB vs H Q E →
      ∃ t, PSs (cxOf (L2.CX P w) P w K mg base N qual (defScope st) f (.ref c) A outer s H E) (defBody st) t ∧ t { nx := fun _ H' => Q .non H', rt := Q } (start N vs) H) : FnB P w K mg base (k + 1) f fd ps spB := by
  obtain ⟨oc, od, kV, doc, pm, an, cdv, ct, osl, rfl, lk, hcd⟩ := F.ex
  have hc : cdv = .ref c := hc
  subst hc
  exact fnB_of lk hcd S fun A outer s H vs Q E hr hg hsp => hbody A outer s H vs Q E hr hg hsp
theorem ExtN.ex {H H' : Hp} (e : Ex H H') : ExtN H H' := fun b o h _ => e b o h
theorem Car.extN {H H' : Hp} (e : ExtN H H') : Car H H' := by
  have key : ∀ (a : Addr) (u : HO), (∀ ps, u ≠ .tbl ps) → Rd H a u → Rd H' a u := fun a u hu r => by
    rcases r with r | ⟨o, r⟩
    · exact .inl (e a _ r hu)
    · exact .inr ⟨o, e a _ r fun ps z => by cases z⟩
  exact ⟨fun a xs r => key a _ (by intro k z; cases z) r, fun a xs r => key a _ (by intro k z; cases z) r⟩
end Rm
/-! The law's own call where some defs make lambdas: their tables of code objects are empty at first. -/
namespace Rm
open PySem PySem.W PySem.Calls PyProof.Rows PySem.Spec L2 LamX
/-- nothing tracked but the script and the empty tables -/
def OnlyT (tabs : List Addr) (H : Hp) : Prop := ∀ b, H b = none ∨ (b ∈ tabs ∧ H b = some (.tbl #[])) ∨ ∃ o xs, H b = some (.frz o (.lst xs))
theorem lawGT {P : Program} {w : World} {K : Frag} {mg mb : Str → Option Value} {k : Nat} {fa a : Addr} {cs : List (Addr × Addr)} {sp : Sp} {s₁ : Shared} {vs : List Value} {ns : List Int}
    (KX : K.In s₁.heap) (hns : s₁.heap.Ns mainGlobals mg) (hb : s₁.heap.Ns builtinsNs mb) (hbb : ∀ x : Str, x ≠ "__name__" → mb x = bootBuiltins x) (hlim : s₁.heap.NoLimit) (hg : s₁.gens = #[])
    (hT : ∀ p ∈ cs, s₁.heap.get? p.2 = some { cls := .none, data := .fields #[] }) (nT : ∀ p ∈ cs, K.lookup p.2 = none) (C : ∀ p ∈ cs, CodeHd s₁.heap p.1 p.2)
    (hbm : ∃ (bm : Addr) (ob : Obj), mg "__builtins__" = some (.ref bm) ∧ bm ≠ builtinsNs ∧ s₁.heap.get? bm = some ob ∧ ob.cls = .type "module" ∧ ob.dict = some builtinsNs ∧ ob.data = .plain)
    (ha : s₁.heap.get? a = some { cls := .type "list", data := .seq vs.toArray }) (hi : IntsAre vs ns) (hl : ns.length ≤ sizeLine) (hr : Room k callerA)
    (F : ∀ base : Heap, K.In base → base.Ns mainGlobals mg → (∀ p ∈ cs, TabB base mg p.1 p.2) → CallG P w K mg base k fa [] sp)
    (hsp : ∀ H : Hp, (∀ p ∈ cs, H p.2 = some (.tbl #[])) → SqL K H a (ns.map V.int) → sp [.ref a] H (fun v _ => v = .bl true) fun _ _ _ => False) :
    codeAny (model P w) callerA (.call (.ref fa) ⟨[.ref a], []⟩) (fun r s' => r = .ok (.ret (.bool true)) ∧ OldK s₁.heap s'.heap ∧ s'.os = s₁.os ∧ AllBare s'.gens) s₁ := by
  have rv := vals_ints hi
  have isT : ∀ b : Addr, b ∈ cs.map (·.2) → s₁.heap.get? b = some { cls := .none, data := .fields #[] } ∧ K.lookup b = none := fun b hb => by
    obtain ⟨p, hp, rfl⟩ := List.mem_map.mp hb
    exact ⟨hT p hp, nT p hp⟩
  have inT : ∀ p ∈ cs, p.2 ∈ cs.map (·.2) := fun p hp => List.mem_map_of_mem hp
  have aT : a ∉ cs.map (·.2) := fun z => by
    have q := (isT a z).1
    rw [ha] at q
    cases q
  obtain ⟨H, hH, hO, hS, hok, hA⟩ : ∃ H : Hp, (∀ p ∈ cs, H p.2 = some (.tbl #[])) ∧ OnlyT (cs.map (·.2)) H ∧ SqL K H a (ns.map V.int) ∧ HOk P w H s₁.heap ∧ ∀ b u, H b = some u → (b = a ∧ K.lookup a = none) ∨ b ∈ cs.map (·.2) := by
    cases hk : K.lookup a with
    | some o =>
      have e := KX a o hk
      rw [ha] at e
      cases e
      refine ⟨fun b => if b ∈ cs.map (·.2) then some (.tbl #[]) else none, fun p hp => if_pos (inT p hp), fun b => ?_, .inr ⟨_, vs.toArray, _, hk, rfl, rfl, rfl, by rw [List.size_toArray, hi.length]; exact hl, by simpa using rv⟩, fun b u z => ?_, fun b u z => ?_⟩
      · by_cases hb : b ∈ cs.map (·.2)
        · exact .inr (.inl ⟨hb, if_pos hb⟩)
        · exact .inl (if_neg hb)
      · by_cases hb : b ∈ cs.map (·.2)
        · cases (if_pos hb).symm.trans z
          exact (isT b hb).1
        · cases (if_neg hb).symm.trans z
      · by_cases hb : b ∈ cs.map (·.2)
        · exact .inr hb
        · cases (if_neg hb).symm.trans z
    | none =>
      refine ⟨upd (fun b => if b ∈ cs.map (·.2) then some (.tbl #[]) else none) a (.frz { cls := .type "list", data := .seq vs.toArray } (.lst (ns.map V.int))), fun p hp => ?_, fun b => ?_, .inl (.inr ⟨_, upd_same⟩), fun b u z => ?_, fun b u z => ?_⟩
      · rw [upd_ne fun z => aT (by rw [← z]; exact inT p hp)]
        exact if_pos (inT p hp)
      · by_cases hb : b = a
        · exact .inr (.inr ⟨_, _, by rw [hb]; exact upd_same⟩)
        · rw [upd_ne hb]
          by_cases hb2 : b ∈ cs.map (·.2)
          · exact .inr (.inl ⟨hb2, if_pos hb2⟩)
          · exact .inl (if_neg hb2)
      · by_cases hb : b = a
        · subst hb
          rw [upd_same] at z
          cases z
          exact ⟨ha, by rw [List.length_map]; exact hl, vs, _, rv, ha⟩
        · rw [upd_ne hb] at z
          by_cases hb2 : b ∈ cs.map (·.2)
          · cases (if_pos hb2).symm.trans z
            exact (isT b hb2).1
          · cases (if_neg hb2).symm.trans z
      · by_cases hb : b = a
        · exact .inl ⟨hb, rfl⟩
        · rw [upd_ne hb] at z
          by_cases hb2 : b ∈ cs.map (·.2)
          · exact .inr hb2
          · cases (if_neg hb2).symm.trans z
  have free : ∀ {b : Addr} {o : Obj}, s₁.heap.get? b = some o → (∀ (xs : Array Value) (n : Nat), o.data ≠ .seq xs n) → o.data ≠ .fields #[] → H b = none := fun {b o} e d1 d2 => by
    cases q : H b with
    | none => rfl
    | some u =>
      rcases hA b u q with ⟨z, _⟩ | z
      · rw [z, ha] at e
        cases e
        exact absurd rfl (d1 _ _)
      · rw [(isT b z).1] at e
        cases e
        exact absurd rfl d2
  have ns' : ∀ {b : Addr} {m : Str → Option Value}, s₁.heap.Ns b m → (hidT s₁.heap H).Ns b m := fun {b m} ⟨o, es, ep, e, d, r⟩ =>
    ⟨o, es, ep, hidT_get e (free e (fun xs n z => by rw [d] at z; cases z) fun z => by rw [d] at z; cases z), d, r⟩
  have hKb : K.In (hidT s₁.heap H) := fun b o e => hidT_get (KX b o e) (by
    cases q : H b with
    | none => rfl
    | some u =>
      rcases hA b u q with ⟨rfl, z⟩ | z
      · rw [z] at e
        cases e
      · rw [(isT b z).2] at e
        cases e)
  have TB : ∀ p ∈ cs, TabB (hidT s₁.heap H) mg p.1 p.2 := fun p hp => by
    have hTp := hT p hp
    obtain ⟨o, us, file, tf, flags, tg, inF, text, tt, e1, r1, r2, r3, r4⟩ := C p hp
    obtain ⟨bm, ob, b1, b2, b3, b4, b5, b6⟩ := hbm
    refine ⟨⟨o, us, file, tf, flags, tg, inF, text, tt, hidT_get e1 (free e1 (fun xs n z => by rw [r2] at z; cases z) fun z => by rw [r2] at z; cases z; simp at r3), r1, r2, r3, r4⟩, ⟨bm, ob, b1, b2, fun z => ?_, fun z => ?_, hidT_get b3 (free b3 (fun xs n z => by rw [b6] at z; cases z) fun z => by rw [b6] at z; cases z), b4, b5, b6⟩, fun z => ?_⟩
    · obtain ⟨o', es, ep, e, hd, _⟩ := hns
      rw [z, e] at b3
      cases b3
      rw [hd] at b6
      cases b6
    · rw [z, hTp] at b3
      cases b3
      cases b6
    · obtain ⟨o', es, ep, e, hd, _⟩ := hns
      rw [z, hTp] at e
      cases e
      cases hd
  obtain ⟨mc, l1, l2⟩ := hlim
  have e0 : Env0 P w K mg (hidT s₁.heap H) callerA [] s₁ H :=
    ⟨rfl, ⟨hKb, ns' hns, ⟨mb, ns' hb, hbb⟩, mc, ns' l1, l2⟩, fun b o e => of_hidT e, Nat.le_of_eq (hidT_size _ _), trivial, (fun b z => absurd (show b ∈ ([] : List Addr) from z) (by simp)), hok, AllBare.of_eq hg⟩
  refine codeAny_mono (F _ hKb (ns' hns) TB callerA [] s₁ H [.ref a] [] [.ref a] [] _ _ hr rfl e0 (.cons rfl .nil) .nil rfl (hsp H hH hS)) fun r s' h => ?_
  cases r with
  | error e =>
    obtain ⟨_, _, _, _, _, _, _, _, _, _, _, _, z⟩ := h
    exact z.elim
  | ok fl =>
    cases fl with
    | next => exact h.elim
    | brk => exact h.elim
    | cont => exact h.elim
    | ret u =>
      obtain ⟨v, H', os, bare, un, hok', r', q⟩ := h
      obtain rfl : v = .bl true := q
      obtain rfl : u = Value.bool true := r'
      have key : ∀ b o, b ∉ cs.map (·.2) → s₁.heap.get? b = some o → s'.heap.get? b = some o := fun b o nb e => by
        rcases hO b with z | ⟨z, _⟩ | ⟨ob, xs, z⟩
        · exact un.keep b o e z (by intro z; cases z) (by simp)
        · exact absurd z nb
        · obtain ⟨e1, _⟩ := hok b _ z
          obtain ⟨e2, _⟩ := hok' b _ (un.frzs b ob _ z)
          rw [e] at e1
          cases e1
          exact e2
      have grown : ∀ p ∈ cs, ∃ more : Array Value, s'.heap.get? p.2 = some { cls := .none, data := .fields more } := fun p hp => by
        obtain ⟨more, z⟩ := un.tbls p.2 #[] (hH p hp)
        exact ⟨_, hok' p.2 _ z⟩
      refine ⟨rfl, ⟨fun b o e => ?_, fun b o e => ?_⟩, os, bare⟩
      · by_cases hb : b ∈ cs.map (·.2)
        · obtain ⟨p, hp, ep⟩ := List.mem_map.mp hb
          obtain ⟨more, hm⟩ := grown p hp
          rw [← ep] at e ⊢
          rw [hT p hp] at e
          cases e
          exact .inr (.inl ⟨((C p hp).tab (hT p hp)).isCodeTable, rfl, #[], more, rfl, by rw [Array.empty_append]; exact hm⟩)
        · exact .inl (key b o hb e)
      · by_cases hb : b ∈ cs.map (·.2)
        · obtain ⟨p, hp, ep⟩ := List.mem_map.mp hb
          obtain ⟨more, hm⟩ := grown p hp
          rw [← ep]
          exact ⟨_, hm⟩
        · exact ⟨o, key b o hb e⟩
/-- the law's end, with tables: what the head left is told by G -/
theorem walk_ofGT {l : OpenLaw} {n k : Nat} {q : Program} {loose : List Str} {XP : (Str → Option Value) → Heap → Prop} {YP : World → Heap → Prop} {d : DefRec} {K : Params → Frag} {sp : World → Sp}
    (hn : l.most = some n) (hn2 : n ≤ sizeLine) (hdf : d.params.defaults = []) (hr : Room k callerA)
    (hY : ∀ (w : World) (h : Heap), YP w h → (K w.params).In h)
    (F : ∀ (w : World) (mg : Str → Option Value) (mb : Str → Option Value) (mean : ExcName → Option Value) (fa : Addr) (h : Heap), Top q (looseW q loose) mean mg mb h → (K w.params).In h → mg d.name = some (.ref fa) →
      ∃ cs : List (Addr × Addr), (∀ p ∈ cs, (CodeHd h p.1 p.2 ∧ h.get? p.2 = some (tabObj #[])) ∧ (K w.params).lookup p.2 = none) ∧
        (∀ base : Heap, (K w.params).In base → base.Ns mainGlobals mg → (∀ p ∈ cs, TabB base mg p.1 p.2) → CallG l.prog w (K w.params) mg base k fa [] (sp w)) ∧
        (∀ (H : Hp) (a : Addr) (ns : List Int), ns.length ≤ n → (∀ z ∈ ns, Builtin.Int.intBits z ≤ 1048576) → (∀ p ∈ cs, H p.2 = some (.tbl #[])) → SqL (K w.params) H a (ns.map V.int) → sp w [.ref a] H (fun v _ => v = .bl true) fun _ _ _ => False)) :
    WalkO q loose XP YP l.row.toRowW d [] (fun f vs => PySem.call f vs) :=
  Att.attach_callB hn hdf fun w _ s₁ mg mb fa o pm cd doc a vs ns G Y ho hd hcd hmg hobj hints hlen hbits hg => by
    obtain ⟨cs, h1, h2, h3⟩ := F w mg mb _ fa _ G.T (hY w _ Y) hmg
    exact lawGT (hY w _ Y) G.T.g G.T.b G.T.builtins G.T.nolimit hg (fun p hp => (h1 p hp).1.2) (fun p hp => (h1 p hp).2) (fun p hp => (h1 p hp).1.1) G.T.bmain hobj hints (Nat.le_trans hlen hn2) hr h2 fun H hH hS => h3 H a ns hlen hbits hH hS
end Rm
/-! Texts: a sign times an int, list(text), text[::-1]; numbers' texts as lists of signs. -/
namespace Rm
open PySem PySem.W PySem.Calls PyProof.Rows PySem.Spec L2 SX
section
variable {X : Cx}
/-- one sign, k times over (k at least 2) -/
def rRepS : R2 := fun x y H Q => ∃ (c : Nat) (k : Nat), x = .str ⟨#[c]⟩ ∧ y = .int (k : Int) ∧ 2 ≤ k ∧ k ≤ 100000 ∧ Q (.str (S (List.replicate k c))) H
theorem rep_one (c k : Nat) : List.foldl (fun x1 x2 => x1 ++ x2) #[] (List.replicate k #[c]) = (List.replicate k c).toArray := by
  have : ∀ (k : Nat) (acc : Array Nat), List.foldl (fun x1 x2 => x1 ++ x2) acc (List.replicate k #[c]) = acc ++ (List.replicate k c).toArray := by
    intro k
    induction k with
    | zero => intro acc; simp
    | succ k ih =>
      intro acc
      rw [List.replicate_succ, List.foldl_cons, ih, List.replicate_succ]
      refine Array.toList_inj.mp ?_
      simp
  rw [this]
  refine Array.toList_inj.mp ?_
  simp
theorem op_repS : OpR X (binaryOp .Mult) rRepS := by
  intro pins s σ H x y v u Q I rx ry h
  obtain ⟨c, k, rfl, rfl, h1, h2, q⟩ := h
  obtain ⟨t, rfl⟩ := rx
  obtain ⟨t', rfl⟩ := ry
  have l1 : (⟨#[c]⟩ : Str).length = 1 := rfl
  refine PySem.P.mul_str (by
      have a1 : ¬ (k : Int) < -(2 ^ 63 : Int) := by omega
      have a2 : ¬ (k : Int) ≥ 2 ^ 63 := by omega
      rw [decide_eq_false a1, decide_eq_false a2]
      rfl) (fun _ _ => ?_) (fun _ _ => ?_) ?_
  · rw [l1]
    have hk : (0 : Int) < (k : Int) := by omega
    have : (1 : Int) ≤ (2 ^ 63 - 1) / (k : Int) := by
      refine (Int.le_ediv_iff_mul_le hk).mpr ?_
      omega
    show ¬ ((1 : Nat) : Int) > _
    omega
  · rw [l1, Int.toNat_natCast, Nat.one_mul]
    unfold Builtin.Str.tooLong
    rw [sizeLine_eq]
    simp
    omega
  · have b1 : ¬ (k : Int) < 1 := by omega
    have b2 : ¬ (((k : Int) == 1 || (⟨#[c]⟩ : Str).length == 0) = true) := by
      rw [l1]
      simp
      omega
    rw [if_neg b1, if_neg b2, Int.toNat_natCast, rep_one]
    refine ⟨?_, .str _, H, I.tok _, ⟨_, rfl⟩, q⟩
    show (List.replicate k c).toArray.size ≤ _
    rw [List.size_toArray, List.length_replicate]
    show k ≤ sizeLine
    rw [sizeLine_eq]
    omega
/-- list(text) -/
theorem signs_vals {x : Str} {acc : Array Value} (h : ItemsOf (SignAt x) acc x.cps.size) : Vals (x.cps.toList.map fun c => V.str ⟨#[c]⟩) acc.toList := by
  have key : ∀ (l : List Nat) (us : List Value), us.length = l.length → (∀ (j : Nat) (v : Value), us[j]? = some v → ∃ (c : Nat) (u : Tok), l[j]? = some c ∧ v = Value.str ⟨#[c]⟩ u) → Vals (l.map fun c => V.str ⟨#[c]⟩) us := by
    intro l
    induction l with
    | nil =>
      intro us e _
      cases us with
      | nil => exact .nil
      | cons _ _ => simp at e
    | cons c l ih =>
      intro us e k
      cases us with
      | nil => simp at e
      | cons v us =>
        obtain ⟨c', u, e1, e2⟩ := k 0 v rfl
        cases e1
        exact .cons ⟨u, e2⟩ (ih us (by simpa using e) fun j w hw => k (j + 1) w hw)
  refine key _ _ (by simpa using h.1) fun j v hv => ?_
  obtain ⟨c, u, e1, e2⟩ := h.2 j v (by rw [← Array.getElem?_toList]; exact hv)
  exact ⟨c, u, by rw [Array.getElem?_toList]; exact e1, e2⟩
theorem call_list_text (hc : X.calm = true) : CallR X (.type "list") (fun xs H Q => ∃ z : Str, xs = [.str z] ∧ z.length ≤ sizeLine ∧ ∀ l, H l = none → Q (.ref l) (upd H l (.lst (z.cps.toList.map fun c => V.str ⟨#[c]⟩)))) := by
  intro pins s σ H xs us Q I r h
  obtain ⟨z, rfl, hz, q⟩ := h
  obtain ⟨u, rfl, t, rfl⟩ := vals1 r
  refine call_list_str (I.ok.hd hc) z t (fun h' tk acc' c' kp e his => ?_) hz
  have hl : (z.cps.toList.map fun c => V.str ⟨#[c]⟩).length ≤ sizeLine := by
    rw [List.length_map, Array.length_toList]
    exact hz
  refine ⟨.ref s.heap.objs.size, _, I.laid (t' := tk) kp (Nat.le_refl _) (show ObjOk X.prog X.w _ h' _ (.lst _) from ⟨hl, acc'.toList, c', signs_vals his, ?_⟩), rfl, q _ (I.hok.fresh (Nat.le_refl _))⟩
  rw [e]
/-- text[::-1]: some text that is no longer -/
def tRevS (te : TE) : TE := fun σ H Q => te σ H fun x H1 => ∃ z : Str, x = .str z ∧ z.length ≤ sizeLine ∧ ∀ r : Str, r.length ≤ z.length → (∀ c ∈ r.cps.toList, c ∈ z.cps.toList) → Q (.str r) H1
theorem rev_len (n : Nat) : (Builtin.Str.strSliceIndices none none (-1) n).length = n := by
  unfold Builtin.Str.strSliceIndices sliceRange
  simp only [List.length_map, List.length_range]
  have h1 : ¬ ((-1 : Int) > 0) := by decide
  simp only [h1, if_false]
  by_cases h : (n : Int) - 1 > -1
  · simp only [h, if_true]
    have : ((n : Int) - 1 - -1 - -1 - 1) / - -1 = n := by
      rw [show (- -1 : Int) = 1 by rfl, Int.ediv_one]
      omega
    rw [this]
    omega
  · simp only [h, if_false]
    have : n = 0 := by omega
    rw [this]
    rfl
theorem pe_revS {e : Expr} {te : TE} {k : Nat} {p1 p2 p3 pos : Pos} (he : PE X e te) : PE X (.Subscript e (.Slice none none (some (.UnaryOp .USub (.Constant (.int 1) k p1) p2)) p3) pos) (tRevS te) := by
  refine ⟨fun pins s σ H Q I h => ?_⟩
  refine Subscript_ (thn (he.run pins s σ H _ I h) fun v s1 ⟨x, H1, I1, r1, q1⟩ => ?_)
  obtain ⟨z, ex, hz, q⟩ := q1
  subst ex
  obtain ⟨t, rfl⟩ := r1
  have hst : PO X (some (.UnaryOp .USub (.Constant (.int 1) k p1) p2)) (tPart (tUn (rU fun i => .int (-i)) (tC (.int 1)))) := po_some (pe_un un_neg pe_int)
  refine wpAny_Slice (thn (po_none.run pins s1 σ H1 (fun o H2 => o = none ∧ H2 = H1) I1 ⟨rfl, rfl⟩) fun vl s2 ⟨l, H2, I2, pl, el, e2⟩ => ?_)
  subst el e2
  refine thn (po_none.run pins s2 σ H2 (fun o H3 => o = none ∧ H3 = H2) I2 ⟨rfl, rfl⟩) fun vu s3 ⟨u, H3, I3, pu, eu, e3⟩ => ?_
  subst eu e3
  refine thn (hst.run pins s3 σ H3 (fun o H4 => o = some (-1) ∧ H4 = H3) I3 ⟨1, rfl, -1, rfl, rfl, rfl⟩) fun vs s4 ⟨o, H4, I4, ps, eo, e4⟩ => ?_
  subst eo e4
  have I5 : Inv X pins σ H4 { s4 with heap := s4.heap.push { cls := .type "slice", data := .fields #[vl, vu, vs] } } := I4.kept (t' := s4.toks) fun b ob q => Heap.get?_push_of_some _ q
  obtain ⟨l1, rfl, n1⟩ := IsPart.raw pl
  obtain ⟨l2, rfl, n2⟩ := IsPart.raw pu
  obtain ⟨l3, rfl, n3⟩ := IsPart.raw ps
  refine tail_any (ops := [.str z t, .ref s4.heap.objs.size]) (typeIs_str _ _ _) (F.slot_str_getitem.lookup) ?_ (by with_unfolding_all rfl)
  refine wpAny_getItem_str_slice (l := l1) (u := l2) (st := l3) (Heap.IsSliceOf.new _ _ _ _ : Heap.IsSlice _ _ _ _ _) (by rw [n3]; rfl) ?_
  have hlen : (slicePicked z l1 l2 l3).length = z.length := by
    unfold slicePicked
    rw [n1, n2, n3]
    exact rev_len _
  unfold sliceMade
  rw [n3, if_neg (by simp)]
  have hr : (⟨((slicePicked z l1 l2 l3).filterMap (z.cps[·]?)).toArray⟩ : Str).length ≤ z.length := by
    show ((slicePicked z l1 l2 l3).filterMap (z.cps[·]?)).toArray.size ≤ _
    rw [List.size_toArray]
    exact Nat.le_trans (List.length_filterMap_le _ _) (Nat.le_of_eq hlen)
  refine ⟨Nat.le_trans hr hz, .str _, H4, I5.tok _, ⟨_, rfl⟩, q _ hr fun c hc => ?_⟩
  have hc : c ∈ (slicePicked z l1 l2 l3).filterMap (z.cps[·]?) := by simpa using hc
  obtain ⟨i, _, hi⟩ := List.mem_filterMap.mp hc
  obtain ⟨h1, h2⟩ := Array.getElem?_eq_some_iff.mp hi
  rw [← h2]
  exact Array.getElem_mem_toList _
end
/-! the text of a number -/
theorem tl_neg {a : Nat} (h : a ≠ 0) : TL.tl (Str.ofString (toString (-(a : Int)))) = 45 :: TL.numL a := by
  obtain ⟨m, rfl⟩ := Nat.exists_eq_succ_of_ne_zero h
  have e : toString (-((m.succ : Nat) : Int)) = "-" ++ toString (((m.succ : Nat)) : Int) := rfl
  rw [e, TL.tl_ofString, ← TL.tl_num, TL.tl_ofString, String.toList_append, List.map_append]
  rfl
theorem tl_sg (neg : Bool) (a : Nat) : TL.tl (Str.ofString (toString (sgI neg a))) = sgnL neg a := by
  unfold sgI sgnL
  cases neg with
  | false => exact TL.tl_num a
  | true =>
    by_cases h : a = 0
    · subst h
      exact TL.tl_num 0
    · rw [if_pos rfl, if_pos ⟨rfl, h⟩]
      exact tl_neg h
theorem ntext_S (neg : Bool) (a b : Nat) : ntext (sgI neg a) (b : Int) = S (numT neg a b) := by
  refine TL.ext_tl ?_
  unfold ntext numT
  by_cases h : b = 1
  · rw [if_pos (by omega), if_pos h]
    exact tl_sg neg a
  · rw [if_neg (by omega), if_neg h, TL.tl_append, TL.tl_append, TL.tl_append]
    show TL.tl Str.empty ++ TL.tl (Str.ofString (toString (sgI neg a))) ++ TL.tl ("/" : Str) ++ TL.tl (Str.ofString (toString ((b : Nat) : Int))) = _
    rw [tl_sg, TL.tl_num]
    have e1 : TL.tl Str.empty = [] := rfl
    have e2 : TL.tl ("/" : Str) = [47] := by decide
    rw [e1, e2, List.nil_append, List.append_assoc]
    rfl
end Rm
/-! Promises of the defs that read numbers from texts. -/
namespace Rm
open PySem PySem.W PySem.Calls PyProof.Rows PySem.Spec L2 SX
def intV (l : List Nat) : V := match intOf l with
  | some n => .int (n : Int)
  | none => .non
def spIntOf : Sp := sp1 fun x H Q _ => ∃ l : List Nat, x = .str (S l) ∧ l.length ≤ 16000000 ∧ ∀ H', Ex H H' → Q (intV l) H'
/-- a new number, or None -/
def spNumOf : Sp := sp1 fun x H Q _ => ∃ l : List Nat, x = .str (S l) ∧ l.length ≤ 16000000 ∧ (numOf l = none → ∀ H', Ex H H' → Q .non H') ∧
  ∀ p q, numOf l = some (p, q) → ∀ a H', H a = none → Ex H H' → H' a = some (.tup [.int p, .int q]) → Q (.ref a) H'
def txtNum : PyData → Option (Int × Int)
  | .str x => numOf x.cps.toList
  | _ => none
def spParse (K : Frag) (C : Addr) : Sp := sp1 fun x H Q E => ∃ d, Dp K H x d ∧ (∀ z, d = .str z → z.length ≤ 16000000) ∧ (txtNum d = none → RErr H E C "line" (.int 0)) ∧
  ∀ p q, txtNum d = some (p, q) → ∀ a H', H a = none → Ex H H' → H' a = some (.tup [.int p, .int q]) → Q (.ref a) H'
/-! sizes -/
theorem digitsVal_lt {l : List Nat} (h : NumText.AllDigits l) : NumText.digitsVal l < 10 ^ l.length := by
  have key : ∀ (l : List Nat) (a : Nat), NumText.AllDigits l → l.foldl (fun acc c => acc * 10 + (c - 48)) a + 1 ≤ (a + 1) * 10 ^ l.length := by
    intro l
    induction l with
    | nil => intro a _; simp
    | cons c l ih =>
      intro a h
      have hc := h.head
      refine Nat.le_trans (ih _ h.tail) ?_
      rw [List.length_cons, Nat.pow_succ, Nat.mul_comm (10 ^ l.length) 10, ← Nat.mul_assoc]
      refine Nat.mul_le_mul_right _ ?_
      show a * 10 + (c - 48) + 1 ≤ (a + 1) * 10
      omega
  have := key l 0 h
  rw [Nat.zero_add, Nat.one_mul] at this
  exact this
theorem pow420 : 10 ^ 420 < 2 ^ 1396 := by decide +kernel
theorem intOf_lt {l : List Nat} {n : Nat} (h : intOf l = some n) : n < 10 ^ 420 := by
  unfold intOf at h
  split at h
  · rename_i hc
    obtain ⟨h1, h2, h3⟩ := canon_digits hc
    cases h
    exact Nat.lt_of_lt_of_le (digitsVal_lt h1) (Nat.pow_le_pow_right (by decide) h3)
  · cases h
theorem intOf_bd {l : List Nat} {n : Nat} (h : intOf l = some n) : Bd 1396 (n : Int) := by
  unfold Bd
  rw [Int.natAbs_natCast]
  exact Nat.lt_trans (intOf_lt h) pow420
theorem sgI_bd {n m : Nat} (neg : Bool) (h : Bd m (n : Int)) : Bd m (sgI neg n) := by
  unfold sgI
  split
  · exact h.neg
  · exact h
/-- the two tests of integer_of -/
theorem intOf_no1 {l : List Nat} (h : ¬ (1 ≤ l.length ∧ l.length ≤ 420)) : intV l = .non := by
  have : canon l ≠ true := fun z => h ⟨by have := (canon_digits z).2.1; exact List.length_pos_iff.mpr this, (canon_digits z).2.2⟩
  unfold intV intOf
  rw [if_neg this]
theorem intOf_no2 {l : List Nat} (h : l.all isDig = false) : intV l = .non := by
  have : canon l ≠ true := fun z => by
    simp only [canon, Bool.and_eq_true] at z
    rw [h] at z
    exact absurd z.1.2 (by simp)
  unfold intV intOf
  rw [if_neg this]
theorem intOf_no3 {l : List Nat} (h : l.head? = some 48) (h1 : 1 < l.length) : intV l = .non := by
  have : canon l ≠ true := fun z => by
    simp only [canon, Bool.and_eq_true] at z
    simp [h, h1] at z
  unfold intV intOf
  rw [if_neg this]
theorem intOf_is {l : List Nat} (h : 1 ≤ l.length ∧ l.length ≤ 420) (h2 : l.all isDig = true) (h3 : ¬ (l.head? = some 48 ∧ 1 < l.length)) : canon l = true ∧ intV l = .int ((NumText.digitsVal l : Nat) : Int) := by
  have : canon l = true := by
    simp only [canon, Bool.and_eq_true, Bool.not_eq_true', Bool.and_eq_false_iff, decide_eq_true_eq, decide_eq_false_iff_not]
    refine ⟨⟨h, h2⟩, ?_⟩
    by_cases z : l.head? = some 48
    · exact .inr fun y => h3 ⟨z, y⟩
    · exact .inl z
  refine ⟨this, ?_⟩
  unfold intV intOf
  rw [if_pos this]
theorem dig_mem (c : Nat) : decide (c ∈ [48, 49, 50, 51, 52, 53, 54, 55, 56, 57]) = isDig c := by
  unfold isDig
  by_cases h : 48 ≤ c ∧ c ≤ 57
  · rw [show (decide (48 ≤ c) && decide (c ≤ 57)) = true by simp [h]]
    refine decide_eq_true ?_
    have : c = 48 ∨ c = 49 ∨ c = 50 ∨ c = 51 ∨ c = 52 ∨ c = 53 ∨ c = 54 ∨ c = 55 ∨ c = 56 ∨ c = 57 := by omega
    simpa using this
  · rw [show (decide (48 ≤ c) && decide (c ≤ 57)) = false by simpa using h]
    refine decide_eq_false fun z => h ?_
    simp at z
    omega
/-! comprehensions of values over any walk, with a test -/
def fmV (o : Nat → V) (b : Nat → Bool) (i : Nat) : List V := (List.range i).filterMap fun k => if b k = true then some (o k) else none
theorem fmV_len (o : Nat → V) (b : Nat → Bool) (i : Nat) : (fmV o b i).length ≤ i := by
  unfold fmV
  refine Nat.le_trans (List.length_filterMap_le _ _) ?_
  rw [List.length_range]
  exact Nat.le_refl _
theorem fmV_succ (o : Nat → V) (b : Nat → Bool) (i : Nat) : fmV o b (i + 1) = fmV o b i ++ (if b i = true then [o i] else []) := by
  unfold fmV
  rw [List.range_succ, List.filterMap_append]
  congr 1
  by_cases h : b i = true
  · simp [h]
  · simp [h]
theorem fmV_all (o : Nat → V) (i : Nat) : fmV o (fun _ => true) i = (List.range i).map o := by
  unfold fmV
  simp
theorem fmV_none {o : Nat → V} {b : Nat → Bool} {n : Nat} (h : ∀ i, i < n → b i = false) : fmV o b n = [] := by
  induction n with
  | zero => rfl
  | succ n ih => rw [fmV_succ, ih fun i hi => h i (by omega), if_neg (by rw [h n (by omega)]; simp)]; rfl
theorem fmV_some {o : Nat → V} {b : Nat → Bool} {n i : Nat} (hi : i < n) (h : b i = true) : fmV o b n ≠ [] := by
  induction n with
  | zero => omega
  | succ n ih =>
    rw [fmV_succ]
    by_cases e : i = n
    · subst e
      rw [if_pos h]
      simp
    · have := ih (by omega)
      intro z
      exact this (List.append_eq_nil_iff.mp z).1
theorem lcf_it {J : It} {n : Nat} {G : Hp → Prop} {Y : Nat → Hp → V → Hp → Prop} (w : Walk J n G Y) {tt : TT} {te : TE} {j : Nat} {σ : L2.St} {H1 : Hp} {D : Addr} {Qd : Hp → Prop} (o : Nat → V) (b : Nat → Bool) (hl : n ≤ 16000000) (hD : H1 D = none)
    (hG : ∀ H, Ex H1 H → G H)
    (hs : ∀ i Hc x Hd, i < n → Ex H1 Hc → Y i Hc x Hd → Ex Hc Hd ∧ (∀ R : Bool → Hp → Prop, (∀ H4, Ex Hd H4 → R (b i) H4) → tt ((wipe σ [j]).set j (some x)) Hd R) ∧
      (b i = true → ∀ H4 (R : VK), Ex Hd H4 → (∀ H5, Ex H4 H5 → R (o i) H5) → te ((wipe σ [j]).set j (some x)) H4 R))
    (hd : ∀ H, H D = some (.lst (fmV o b n)) → Ex H1 H → Qd H) :
    ∃ W : Nat → Nat → Hp → Prop, (∃ m, W 0 m (upd H1 D (.lst []))) ∧ ∀ i m H, W i m H →
      (J.stop i H ∧ Qd H) ∨ (J.go i H ∧ ∃ Nx : Hp → Prop, (∀ H', Nx H' → ∃ m', m' < m ∧ W (i + 1) m' H') ∧ ∀ x H', J.yld i H x H' → gName j x (wipe σ [j]) H' fun σ2 H2 => wipe σ2 [j] = wipe σ [j] ∧ tt σ2 H2 fun b H3 =>
        if b = true then te σ2 H3 fun y H4 => ∃ acc, H4 D = some (.lst acc) ∧ acc.length < sizeLine ∧ Nx (upd H4 D (.lst (acc ++ [y]))) else Nx H3) := by
  refine lc_it w (g := gName j) (tt := tt) (te := te) (vs := [j]) (σ := σ) (fun i H => H D = some (.lst (fmV o b i)) ∧ Ex H1 H) ⟨upd_same, Evl.Ex.new hD⟩ (fun i H _ h => hG H h.2) (fun i x Hc Hd hi h y => ?_) fun H h => hd H h.1 h.2
  obtain ⟨e1, h1, h2⟩ := hs i Hc x Hd hi h.2 y
  refine ⟨wipe_set, h1 _ fun H4 e4 => ?_⟩
  have hD4 : H4 D = some (.lst (fmV o b i)) := e4 _ _ (e1 _ _ h.1)
  by_cases hb : b i = true
  · rw [if_pos hb]
    refine h2 hb H4 _ e4 fun H5 e5 => ⟨_, e5 _ _ hD4, ?_, ?_, fun a u ha => ?_⟩
    · have := fmV_len o b i
      rw [sizeLine_eq]
      omega
    · rw [upd_same, fmV_succ, if_pos hb]
    · rw [upd_ne (ne_of_none ha hD)]
      exact e5 _ _ (e4 _ _ (e1 _ _ (h.2 _ _ ha)))
  · rw [if_neg hb]
    exact ⟨by rw [hD4, fmV_succ, if_neg hb, List.append_nil], h.2.trans (e1.trans e4)⟩
theorem atI_head {α : Type} (c : α) (r : List α) : atI (c :: r) 0 = some c := by
  unfold atI ixN
  rw [if_pos (Int.le_refl 0), if_pos (by simp)]
  rfl
theorem yes_in {σ : L2.St} {H : Hp} {R : Bool → Hp → Prop} (h : R true H) : tYes σ H R := h
theorem wipe_get {σ : L2.St} {j : Nat} {x : Option V} (h : j < σ.length) : ((wipe σ [j]).set j x)[j]? = some x := by
  show ((σ.set j none).set j x)[j]? = some x
  rw [List.set_set, List.getElem?_set_self h]
theorem exn {H H' : Hp} {a : Addr} (e : Ex H H') (h : H' a = none) : H a = none := by
  cases q : H a with
  | none => rfl
  | some o =>
    rw [e _ _ q] at h
    cases h
theorem starts_minus (l : List Nat) : Txt.startswith (S l) (Str.ofString "-") = negOf l := by
  have e : Str.ofString "-" = S [45] := by decide
  rw [e]
  unfold Txt.startswith negOf
  cases l with
  | nil => rfl
  | cons c r =>
    by_cases h : c = 45
    · subst h
      simp [Builtin.Str.subAt, S, Str.length]
    · simp [Builtin.Str.subAt, S, Str.length, h]
theorem part_none {ds : List Nat} (h : TL.par [47] [] ds = none) : Txt.partition (S ds) (Str.ofString "/") = (S ds, S [], S []) := by
  have e : Str.ofString "/" = S [47] := by decide
  rw [e]
  exact SX.partition_none (by simp) h
theorem part_some {ds p q : List Nat} (h : TL.par [47] [] ds = some (p, q)) : Txt.partition (S ds) (Str.ofString "/") = (S p, S [47], S q) := by
  have e : Str.ofString "/" = S [47] := by decide
  rw [e]
  exact SX.partition_some (by simp) h
theorem par_len {ds p q : List Nat} (h : TL.par [47] [] ds = some (p, q)) : p.length ≤ ds.length ∧ q.length ≤ ds.length := by
  by_cases hs : 47 ∈ ds
  · obtain ⟨p', q', e, hp⟩ := split_at _ hs
    have e1 : TL.par [47] [] ds = some (p', q') := by
      rw [e]
      exact TL.par_part1 (S := []) (acc := []) hp
    rw [h] at e1
    cases e1
    rw [e]
    simp
    omega
  · rw [show TL.par [47] [] ds = none from TL.par_none1 (S := []) hs] at h
    cases h
theorem rest_len (l : List Nat) : (restOf l).length ≤ l.length := by
  unfold restOf
  split
  · rw [List.length_drop]
    omega
  · exact Nat.le_refl _
theorem intV_none {l : List Nat} (h : intOf l = none) : intV l = .non := by
  unfold intV
  rw [h]
theorem intV_some {l : List Nat} {n : Nat} (h : intOf l = some n) : intV l = .int (n : Int) := by
  unfold intV
  rw [h]
theorem sg_mul (neg : Bool) (a : Nat) : (if neg = true then (-1 : Int) else 1) * (a : Int) = sgI neg a := by
  unfold sgI
  cases neg
  · simp
  · simp
theorem isNum_sg (neg : Bool) (a b : Nat) : IsNum (sgI neg a) (b : Int) ↔ 1 ≤ b ∧ Nat.gcd a b = 1 := by
  unfold IsNum sgI
  cases neg
  · simp only [Bool.false_eq_true, if_false, Int.gcd_natCast_natCast]
    omega
  · simp only [if_true, Int.neg_gcd, Int.gcd_natCast_natCast]
    omega
theorem fmV_mem {o : Nat → V} {b : Nat → Bool} {n : Nat} {x : V} (h : x ∈ fmV o b n) : ∃ i, i < n ∧ b i = true ∧ x = o i := by
  obtain ⟨i, hi, e⟩ := List.mem_filterMap.mp h
  by_cases hb : b i = true
  · rw [if_pos hb] at e
    exact ⟨i, List.mem_range.mp hi, hb, (Option.some.inj e).symm⟩
  · rw [if_neg hb] at e
    cases e
/-- signs that a text may have -/
def okL (l : List Nat) : Prop := ∀ c ∈ l, c < 1114112
theorem okL.str {l : List Nat} (h : okL l) : PyData.strOk (S l) = true := by
  show (l.toArray).all (· < 0x110000) = true
  rw [← Array.all_toList]
  exact List.all_eq_true.mpr fun c hc => decide_eq_true (h c hc)
theorem okL.app {l m : List Nat} (h : okL l) (k : okL m) : okL (l ++ m) := fun c hc => (List.mem_append.mp hc).elim (h c) (k c)
theorem okL.sub {l m : List Nat} (h : okL l) (k : ∀ c ∈ m, c ∈ l) : okL m := fun c hc => h c (k c hc)
theorem strs_data {K : Frag} {H : Hp} : ∀ {xs : List V}, (∀ x ∈ xs, ∃ z, x = .str z ∧ PyData.strOk z = true) → ∃ ds, DpAll K H xs ds ∧ (ds = [] ↔ xs = []) ∧ ∀ d ∈ ds, d.canLay0 = true ∧ d.depth ≤ 60
  | [], _ => ⟨[], .nil, by simp, fun _ h => by cases h⟩
  | x :: xs, h => by
    obtain ⟨z, rfl, hz⟩ := h x List.mem_cons_self
    obtain ⟨ds, h1, _, h3⟩ := strs_data (xs := xs) fun y hy => h y (List.mem_cons_of_mem _ hy)
    refine ⟨.str z :: ds, .cons (.str z) h1, by simp, fun d hd => ?_⟩
    rcases List.mem_cons.mp hd with rfl | hd
    · exact ⟨hz, by simp [PyData.depth]⟩
    · exact h3 d hd
theorem eqv_nil (ds : List PyData) : PyData.eqv (.list ds) (.list []) = decide (ds = []) := by
  cases ds <;> simp [PyData.eqv, PyData.eqvAll]
theorem shaped_nil : SeqAt.shaped (.list []) = true := by decide
theorem canon_red {l : List Nat} (h : 1 ≤ l.length ∧ l.length ≤ 420) (h2 : l.all isDig = true) : canon l = !(decide (l.head? = some 48) && decide (1 < l.length)) := by
  simp [canon, h.1, h.2, h2]
theorem canon_all {l : List Nat} (h : l.all isDig = false) : canon l = false := by simp [canon, h]
theorem canon_len {l : List Nat} (h : ¬ (1 ≤ l.length ∧ l.length ≤ 420)) : canon l = false := by
  cases e : canon l with
  | false => rfl
  | true =>
    have := canon_digits e
    exact absurd ⟨List.length_pos_iff.mpr this.2.1, this.2.2⟩ h
theorem spl_sub : ∀ (l acc : List Nat), ∀ p ∈ TL.spl [47] 0 acc l, (∀ c ∈ p, c ∈ acc ++ l) ∧ p.length ≤ acc.length + l.length
  | [], acc, p, hp => by
    rw [TL.spl_nil] at hp
    rw [List.mem_singleton.mp hp]
    simp
  | c :: r, acc, p, hp => by
    cases h : TL.pre [47] (c :: r) with
    | true =>
      rw [TL.spl_hit h] at hp
      rcases List.mem_cons.mp hp with rfl | hp
      · exact ⟨fun x hx => List.mem_append_left _ hx, by simp⟩
      · obtain ⟨h1, h2⟩ := spl_sub r [] p hp
        refine ⟨fun x hx => List.mem_append_right _ (List.mem_cons_of_mem _ (by simpa using h1 x hx)), ?_⟩
        simp at h2 ⊢
        omega
    | false =>
      rw [TL.spl_miss h] at hp
      obtain ⟨h1, h2⟩ := spl_sub r (acc ++ [c]) p hp
      refine ⟨fun x hx => by simpa using h1 x hx, ?_⟩
      simp at h2 ⊢
      omega
theorem rest_sub {l : List Nat} : ∀ c ∈ Rm.restOf l, c ∈ l := by
  intro c hc
  unfold Rm.restOf at hc
  split at hc
  · exact List.mem_of_mem_drop hc
  · exact hc
theorem eq_minus (l : List Nat) : decide (V.str (Txt.slice (S l) none (some 1)) = V.str (Str.ofString "-")) = negOf l := by
  rw [slice_to (a := l) (i := 1) (by decide)]
  have e : Str.ofString "-" = S [45] := by decide
  rw [e]
  unfold negOf
  cases l with
  | nil => rfl
  | cons c r =>
    by_cases h : c = 45
    · subst h
      rw [decide_eq_true (show (45 :: r).head? = some 45 from rfl)]
      exact decide_eq_true rfl
    · rw [decide_eq_false (show ¬ (c :: r).head? = some 45 from fun z => h (Option.some.inj z))]
      refine decide_eq_false fun z => h ?_
      have : List.take (1 : Int).toNat (c :: r) = [45] := S_inj (V.str.inj z)
      exact (List.cons.inj this).1
theorem slice_rest (l : List Nat) : Txt.slice (S l) (some (if negOf l = true then 1 else 0)) none = S (Rm.restOf l) := by
  unfold Rm.restOf
  by_cases h : negOf l = true
  · rw [if_pos h, if_pos h]
    exact slice_from (a := l) (i := 1) (by decide)
  · rw [if_neg h, if_neg h]
    exact slice_from (a := l) (i := 0) (by decide)
theorem split_slash (l : List Nat) : Txt.split (S l) (Str.ofString "/") = (TL.spl [47] 0 [] l).map S := by
  have e : Str.ofString "/" = S [47] := by decide
  rw [e]
  exact split_S (by simp) (by decide)
theorem digits_bd {l : List Nat} (h : canon l = true) : Bd 1396 ((NumText.digitsVal l : Nat) : Int) := intOf_bd (l := l) (if_pos h)
theorem canon_isdig {l : List Nat} (h : canon l = true) : l.all (fun c => decide (48 ≤ c) && decide (c ≤ 57)) = true := by
  simp only [canon, Bool.and_eq_true] at h
  exact h.1.2
/-- a text of at most n good signs -/
def Gs (n : Nat) (x : Str) : Prop := ∃ r : List Nat, x = S r ∧ r.length ≤ n ∧ okL r
theorem Gs.mono {n m : Nat} {x : Str} (h : Gs n x) (hm : n ≤ m) : Gs m x := by
  obtain ⟨r, h1, h2, h3⟩ := h
  exact ⟨r, h1, by omega, h3⟩
theorem Gs.len {n : Nat} {x : Str} (h : Gs n x) : x.length ≤ n := by
  obtain ⟨r, rfl, h2, _⟩ := h
  rwa [S_len]
theorem Gs.app {n m : Nat} {x y : Str} (h : Gs n x) (k : Gs m y) : Gs (n + m) (x ++ y) := by
  obtain ⟨r, rfl, h2, h3⟩ := h
  obtain ⟨t, rfl, k2, k3⟩ := k
  exact ⟨r ++ t, S_cat _ _, by rw [List.length_append]; omega, h3.app k3⟩
theorem Gs.of {l : List Nat} (h : okL l) : Gs l.length (S l) := ⟨l, rfl, Nat.le_refl _, h⟩
theorem Gs.to {l : List Nat} (h : okL l) {i : Int} (hi : 0 ≤ i) : Gs (min i.toNat l.length) (Txt.slice (S l) none (some i)) := by
  rw [slice_to hi]
  exact ⟨_, rfl, by rw [List.length_take]; omega, h.sub fun c hc => List.mem_of_mem_take hc⟩
theorem Gs.from {l : List Nat} (h : okL l) {i : Int} (hi : 0 ≤ i) : Gs (l.length - i.toNat) (Txt.slice (S l) (some i) none) := by
  rw [slice_from hi]
  exact ⟨_, rfl, by rw [List.length_drop]; omega, h.sub fun c hc => List.mem_of_mem_drop hc⟩
def G399 : Nat := 10 ^ 399
def G400 : Nat := 10 ^ 400
theorem great_val : NumText.digitsVal (49 :: List.replicate 399 48) = G399 := by decide +kernel
theorem great_gt : 1000000000000000000 < G399 := by decide +kernel
theorem great_400 : 2 * G399 ≤ G400 := by decide +kernel
theorem great_1500 : 2 * G399 < 2 ^ 1500 := by decide +kernel
theorem great_text : Str.ofString "1" ++ S (List.replicate 399 48) = S (49 :: List.replicate 399 48) := by
  have e : Str.ofString "1" = S [49] := by decide
  rw [e, S_cat]
  rfl
theorem great_int : PySem.intText? (Str.ofString "1" ++ S (List.replicate 399 48)) = some (G399 : Int) := by
  rw [great_text, ← great_val]
  exact int_S (by decide +kernel) (by simp) (by simp)
theorem great_len : (Str.ofString "1" ++ S (List.replicate 399 48)).length ≤ 640 := by
  rw [great_text, S_len]
  simp
theorem great_sz : (Str.ofString "1").length + (S (List.replicate 399 48)).length ≤ sizeLine := by
  have := great_len
  rw [Str.length_append] at this
  rw [sizeLine_eq]
  omega
theorem great_bd {i : Int} (h0 : 0 ≤ i) (h : i < 2 * (G399 : Int)) : Bd 1500 i := by
  unfold Bd
  have := great_1500
  omega
theorem isNum_neg {p q : Int} (h : IsNum p q) : IsNum (0 - p) q := ⟨h.1, by rw [Int.zero_sub, Int.neg_gcd]; exact h.2⟩
def sp0 (f : Hp → VK → XK → Prop) : Sp := fun vs H Q E => vs = [] ∧ f H Q E
theorem sp0_len {f} (vs : List V) (H : Hp) (Q : VK) (E : XK) (h : sp0 f vs H Q E) : vs.length = ([] : List Str).length := by obtain ⟨rfl, _⟩ := h; rfl
theorem numOf_inv {l : List Nat} {p q : Int} (h : Rm.numOf l = some (p, q)) : ∃ a b : Nat, p = sgI (negOf l) a ∧ q = (b : Int) ∧ a < 10 ^ 420 ∧ b < 10 ^ 420 ∧ 1 ≤ b ∧ Nat.gcd a b = 1 ∧ numT (negOf l) a b = l := by
  unfold Rm.numOf at h
  simp only at h
  split at h
  · rename_i a b ha hb
    split at h
    · rename_i hc
      cases h
      refine ⟨a, b, rfl, rfl, intOf_lt ha, ?_, hc.1.1, hc.1.2, hc.2⟩
      split at hb
      · exact intOf_lt hb
      · cases hb
        decide +kernel
    · cases h
  · cases h
theorem numOf_bd {l : List Nat} {p q : Int} (h : Rm.numOf l = some (p, q)) : Bd 1396 p ∧ Bd 1396 q := by
  obtain ⟨a, b, rfl, rfl, ha, hb, _⟩ := numOf_inv h
  have k : ∀ n : Nat, n < 10 ^ 420 → Bd 1396 (n : Int) := fun n hn => by
    unfold Bd
    rw [Int.natAbs_natCast]
    exact Nat.lt_trans hn pow420
  exact ⟨sgI_bd _ (k a ha), k b hb⟩
theorem g400_420 : G400 < 10 ^ 420 := by decide +kernel
/-- the text of a number tells it -/
theorem numOf_text {p q : Int} (i : IsNum p q) (hp : p.natAbs < G400) (hq : q.natAbs < G400) : Rm.numOf (TL.tl (ntext p q)) = some (p, q) := by
  have h420 := g400_420
  obtain ⟨b, rfl⟩ : ∃ b : Nat, q = (b : Int) := ⟨q.natAbs, by have := i.1; omega⟩
  have hq : b < 10 ^ 420 := by rw [Int.natAbs_natCast] at hq; omega
  have key : ∀ (neg : Bool) (a : Nat), (neg = true → a ≠ 0) → a < 10 ^ 420 → IsNum (sgI neg a) (b : Int) → Rm.numOf (TL.tl (ntext (sgI neg a) (b : Int))) = some (sgI neg a, (b : Int)) := by
    intro neg a hn ha hi
    rw [ntext_S]
    show Rm.numOf (numT neg a b) = _
    have ca := canon_num ha
    have cb := canon_num hq
    have va : intOf (TL.numL a) = some a := by unfold intOf; rw [if_pos ca, TL.numL_val]
    have vb : intOf (TL.numL b) = some b := by unfold intOf; rw [if_pos cb, TL.numL_val]
    have fa : ∀ x, TL.numL a ++ x ≠ [] ∧ (TL.numL a ++ x).head? ≠ some 45 := fun x => by
      have hne := TL.numL_ne a
      have hd := TL.numL_digits a
      cases h : TL.numL a with
      | nil => exact absurd h hne
      | cons c r =>
        refine ⟨by simp, fun z => ?_⟩
        have z : c = 45 := Option.some.inj z
        have := hd c (by rw [h]; exact List.mem_cons_self)
        omega
    have en : negOf (numT neg a b) = neg ∧ Rm.restOf (numT neg a b) = (if b = 1 then TL.numL a else TL.numL a ++ (47 :: TL.numL b)) := by
      obtain ⟨R, hR⟩ : ∃ R, R = (if b = 1 then TL.numL a else TL.numL a ++ (47 :: TL.numL b)) := ⟨_, rfl⟩
      rw [← hR]
      cases neg with
      | true =>
        have s1 : sgnL true a = 45 :: TL.numL a := if_pos ⟨rfl, hn rfl⟩
        have e : numT true a b = 45 :: R := by
          unfold numT
          rw [s1, hR]
          split <;> rfl
        have e2 : negOf (45 :: R) = true := decide_eq_true rfl
        rw [e]
        refine ⟨e2, ?_⟩
        unfold Rm.restOf
        rw [if_pos e2]
        rfl
      | false =>
        have s1 : sgnL false a = TL.numL a := if_neg (by simp)
        have e : numT false a b = R := by
          unfold numT
          rw [s1, hR]
        have e2 : negOf R = false := by
          refine decide_eq_false ?_
          rw [hR]
          split
          · have := (fa []).2
            rwa [List.append_nil] at this
          · exact (fa _).2
        rw [e]
        refine ⟨e2, ?_⟩
        unfold Rm.restOf
        rw [if_neg (by rw [e2]; simp)]
    have hi2 := (isNum_sg neg a b).mp hi
    unfold Rm.numOf
    rw [en.1, en.2]
    have n47 : ∀ n, 47 ∉ TL.numL n := fun n => TL.numL_free (.inl (by decide))
    by_cases hb : b = 1
    · subst hb
      have hpar : TL.par [47] [] (TL.numL a) = none := TL.par_none1 (S := []) (n47 a)
      simp only [if_true, hpar, Option.getD_none, Option.isSome_none, Bool.false_eq_true, if_false, va]
      rw [if_pos ⟨hi2, trivial⟩]
    · have hpar : TL.par [47] [] (TL.numL a ++ (47 :: TL.numL b)) = some (TL.numL a, TL.numL b) := TL.par_part1 (S := []) (acc := []) (n47 a)
      simp only [hb, if_false, hpar, Option.getD_some, Option.isSome_some, if_true, va, vb]
      rw [if_pos ⟨hi2, trivial⟩]
  by_cases h : p < 0
  · have e : p = sgI true p.natAbs := by unfold sgI; rw [if_pos rfl]; omega
    have z := key true p.natAbs (fun _ => by omega) (by omega) (by rw [← e]; exact i)
    rwa [← e] at z
  · have e : p = sgI false p.natAbs := by unfold sgI; rw [if_neg (by simp)]; omega
    have z := key false p.natAbs (fun h => by cases h) (by omega) (by rw [← e]; exact i)
    rwa [← e] at z
end Rm
/-! The head by one run: what it leaves is told by data and one Bool; own classes of errors among it. -/
namespace Rm
open PySem PySem.W PySem.Calls PyProof.Rows PySem.Spec L2 LamX
/-- an own class of errors by its text: name, the base of its family, field, its __init__ -/
structure XiD where
  x : Str
  B : String
  newId : String
  initId : String
  fld : Str
  qual : Str
  st : Stmt
/-- the first def of a class statement -/
def clsDef : Stmt → Stmt
  | .ClassDef (body := b) .. => b.getD 0 (.Pass ⟨0, 0, 0, 0⟩)
  | _ => .Pass ⟨0, 0, 0, 0⟩
abbrev XiV : Type := Option (Str × Str × Arguments × FuncBody × Scope × Addr × List Str × Value × Value × Addr)
def xiObs (K : Frag) (x : Str) : XiV := match K.lookup (He.ma K (He.ga K x) "__init__") with
  | some ⟨_, _, .func fd, _⟩ => some (fd.name, fd.qualname, fd.params, fd.body, fd.scope, fd.globals, fd.closure.map (·.1), fd.defaults, fd.kwdefaults, fd.builtins)
  | _ => none
def XiD.val (d : XiD) : XiV := some ("__init__", d.qual, defArgs d.st, .stmts (defBody d.st), defScope d.st, mainGlobals, ["__class__"], .none, .none, builtinsNs)
def XiD.bm (d : XiD) : List Value := [.type d.B, .type "Exception", .type "BaseException", .type "object"]
def dO (a b : Option Value) : Bool := decide (a = b)
def dB (a : Option Bool) : Bool := match a with
  | some true => true
  | _ => false
theorem dB_ok {a : Option Bool} (h : dB a = true) : a = some true := by
  cases a with
  | none => cases h
  | some b => cases b <;> first | rfl | cases h
/-- the code, the cell and the file of that __init__ -/
def xiCode (K : Frag) (file q : Str) (C0 : Addr) (cd : Value) (cl : List (Str × Addr)) : Bool := match cd, cl with
  | .ref cda, [(_, cc)] => codeIn K (.ref cda) q && ((match K.lookup cc with
      | some ⟨_, _, .cell (some (.ref C)), _⟩ => decide (C = C0)
      | _ => false) && (match K.lookup cda with
      | some ⟨_, _, .fields vs, _⟩ => (match (vs[2]? : Option Value) with
        | some (.str f _) => (file == f)
        | _ => false)
      | _ => false))
  | _, _ => false
def xiFn (K : Frag) (file : Str) (d : XiD) : Bool := match K.lookup (He.ma K (He.ga K d.x) "__init__") with
  | some ⟨_, _, .func fd, _⟩ => xiCode K file d.qual (He.ga K d.x) fd.code fd.closure
  | _ => false
def xiOkC (K : Frag) (file : Str) (d : XiD) (C fI : Addr) : Bool :=
  keepIn K (.ref C) && (excInitIn K C d.bm d.newId && (excOver K C d.bm && (He.eqO (findIn K (.ref C) "__init__") (some (some (.ref fI))) && (isFn K (.ref fI) && (xiFn K file d &&
  (He.eqO (ks_superIn K C C "__init__") (some (some (.builtin d.initId))) && (dB (subIn K (.ref C) (.type d.B)) && (dB (subIn K (.ref C) (.ref C)) && (He.eqO (findIn K (.ref C) "__setattr__") (some (some (.builtin "object.__setattr__"))) &&
  (decide (takerIn K C d.fld = some none) && (hasDictIn K C && (dB (subIn K (.ref C) (.type "BaseException")) && (dO (typeIn K (.ref C)) (some (.type "type")) && (He.eqO (findIn K (.ref C) "__getattribute__") (some (some (.builtin "BaseException.__getattribute__"))) &&
  (He.eqO (findIn K (.ref C) "__getattr__") (some none) && (He.eqO (findIn K (.ref C) "__class__") (some (some (.builtin "object.__class__"))) && (dB (mroIn K C (.type "object")) && He.eqO (findIn K (.ref C) d.fld) (some none))))))))))))))))))
def xiOk (K : Frag) (file : Str) (d : XiD) : Bool := xiOkC K file d (He.ga K d.x) (He.ma K (He.ga K d.x) "__init__")
/-- once for all classes -/
def xiAll (K : Frag) : Bool := He.eqO (nsIn K mainGlobals "super") (some none) && (He.eqO (nsIn K cStatics "thirdparty.any") (some none) && (He.eqO (specialIn K (.builtin "object.__class__") "__get__") (some (some (.builtin "getset_descriptor.__get__"))) && dB (takesIn K (.builtin "object.__class__"))))
/-- what such a class's text says -/
structure XiT (file : Str) (d : XiD) : Prop where
  body : ∃ (msg : Str) (p0 p1 p2 p3 p4 p5 p6 p7 p8 p9 : Pos) (kk : Nat), defBody d.st = xBody msg d.fld p0 p1 p2 p3 p4 p5 p6 p7 p8 p9 kk ∧
    ∀ (fI cda cc L : Addr), ∃ pl : Sem Bool, eval (.Call (.Attribute (.Call (.Name "super" p0) [] [] p1) "__init__" p2) [.Constant (.str msg) kk p3] [] p4) (ksEnv d.qual (defScope d.st) L fI (.ref cda) cc) = (do
      let ov ← attributeBase (.Call (.Name "super" p0) [] [] p1) "__init__" (ksEnv d.qual (defScope d.st) L fI (.ref cda) cc) (eval (.Call (.Name "super" p0) [] [] p1) (ksEnv d.qual (defScope d.st) L fI (.ref cda) cc))
      standAt p2.atName
      let (g, first) ← holding [ov] (getMethod ov "__init__" pl)
      callWith p4 g first (backTo p4 (starEach [.Constant (.str msg) kk p3] (ksEnv d.qual (defScope d.st) L fI (.ref cda) cc))) [])
  lh : ((defArgs d.st).posonlyargs ++ (defArgs d.st).args).head?.map (·.arg) = some ("self" : Str)
  b1 : ∀ (b : List Stmt) (doc pm : Value) (an : Option Addr) (cdv ct : Value) (cc : Addr) (s : Shared) (x y : Value), BindsTo s (ksFn "__init__" d.qual (defArgs d.st) b (defScope d.st) .none .none doc pm an cdv ct cc) ⟨[x, y], []⟩ [("self", x), (d.fld, y)]
  b2 : ∀ (b : List Stmt) (doc pm : Value) (an : Option Addr) (cdv ct : Value) (cc : Addr) (s : Shared) (x y : Value), BindsTo s (ksFn "__init__" d.qual (defArgs d.st) b (defScope d.st) .none .none doc pm an cdv ct cc) ⟨[x], [(d.fld, y)]⟩ [("self", x), (d.fld, y)]
  s0 : (defScope d.st).names.lookup ("super" : Str) = some .globalImplicit
  s1 : (defScope d.st).names.lookup ("__class__" : Str) = some .free
  s2 : (defScope d.st).names.lookup ("self" : Str) = some .local
  s3 : (defScope d.st).names.lookup d.fld = some .local
  s4 : ∀ x ∈ (defScope d.st).names, x.2 ≠ .cell
  s5 : (defScope d.st).isCoroutine = false
  s6 : (defScope d.st).isGenerator = false
  s7 : (defScope d.st).kind = .function
  f1 : ¬ ("self" : Str) = d.fld
  f2 : (d.fld == ("__debug__" : Str)) = false
  f3 : (d.fld == ("__classdict__" : Str)) = false
theorem xb_of {P : Program} {K : Frag} {h : Heap} {mg : Str → Option Value} {d : XiD} (fb : ExcBaseFacts d.B d.newId d.initId d.bm) (kf : KxsFacts d.B d.initId) (sf : StoreFacts d.B d.bm "object.__setattr__" "object") (X : K.In h) (G : h.Ns mainGlobals mg)
    (tp : (P.main.scope.names.lookup ("super" : Str)).isSome = false) (ca : xiAll K = true) (e : xiObs K d.x = d.val) (c : xiOk K P.main.file d = true) (t : XiT P.main.file d) : XB P K mg d.B d.newId d.initId d.bm d.fld (He.ga K d.x) := by
  unfold xiOk xiOkC at c
  obtain ⟨c1, c⟩ := He.ba c
  obtain ⟨c2, c⟩ := He.ba c
  obtain ⟨c3, c⟩ := He.ba c
  obtain ⟨c4, c⟩ := He.ba c
  obtain ⟨c5, c⟩ := He.ba c
  obtain ⟨c6, c⟩ := He.ba c
  obtain ⟨c7, c⟩ := He.ba c
  obtain ⟨c8, c⟩ := He.ba c
  obtain ⟨c9, c⟩ := He.ba c
  obtain ⟨c10, c⟩ := He.ba c
  obtain ⟨c11, c⟩ := He.ba c
  obtain ⟨c12, c⟩ := He.ba c
  obtain ⟨c13, c⟩ := He.ba c
  obtain ⟨c14, c⟩ := He.ba c
  obtain ⟨c15, c⟩ := He.ba c
  obtain ⟨c16, c⟩ := He.ba c
  obtain ⟨c17, c⟩ := He.ba c
  obtain ⟨c18, c19⟩ := He.ba c
  obtain ⟨a1, ca⟩ := He.ba ca
  obtain ⟨a2, ca⟩ := He.ba ca
  obtain ⟨a3, a4⟩ := He.ba ca
  obtain ⟨msg, p0, p1, p2, p3, p4, p5, p6, p7, p8, p9, kk, tb, tv⟩ := t.body
  unfold xiFn at c6
  unfold xiObs at e
  cases q : K.lookup (He.ma K (He.ga K d.x) "__init__") with
  | none =>
    rw [q] at e
    cases e
  | some o =>
    obtain ⟨oc, od, dt, osl⟩ := o
    rw [q] at c6 e
    cases dt with
    | func fd =>
      obtain ⟨n1, n2, n3, n4, n5, n6, n7, n8, n9, n10, n11, n12, n13, n14, n15⟩ := fd
      have e2 : (some (n1, n2, n3, n4, n5, n6, n7.map (·.1), n8, n9, n15) : XiV) = some (("__init__" : Str), d.qual, defArgs d.st, FuncBody.stmts (defBody d.st), defScope d.st, mainGlobals, [("__class__" : Str)], Value.none, Value.none, builtinsNs) := e
      simp only [Option.some.injEq, Prod.mk.injEq] at e2
      obtain ⟨h1, h2, h3, h4, h5, h6, h7, h8, h9, h10⟩ := e2
      subst h1 h2 h3 h4 h5 h6 h8 h9 h10
      have c6 : xiCode K P.main.file d.qual (He.ga K d.x) n13 n7 = true := c6
      cases n13 with
      | ref cda =>
        obtain ⟨cc, rfl⟩ : ∃ cc : Addr, n7 = [(("__class__" : Str), cc)] := by
          cases n7 with
          | nil => cases h7
          | cons hd tl =>
            cases tl with
            | nil =>
              obtain ⟨nm, cc⟩ := hd
              have z : [nm] = [("__class__" : Str)] := h7
              exact ⟨cc, by rw [(List.cons.inj z).1]⟩
            | cons a b =>
              have z : (hd :: a :: b).length = [("__class__" : Str)].length := by rw [← h7, List.length_map]
              simp at z
        unfold xiCode at c6
        obtain ⟨k1, k2⟩ := He.ba c6
        obtain ⟨k3, k4⟩ := He.ba k2
        split at k3
        · rename_i cl cld C csl hcc
          have eC : C = He.ga K d.x := of_decide_eq_true k3
          subst eC
          split at k4
          · rename_i ccl cdd vs ccs hcd
            split at k4
            · rename_i f tf hv
              rw [tb] at q
              exact xmk fb kf sf X G c1 c2 c3 (He.eqO_ok c4) c5 q k1 hcc hcd hv k4 t.lh (fun s x y => t.b1 _ _ _ _ _ _ _ s x y) (fun s x y => t.b2 _ _ _ _ _ _ _ s x y) t.s0 t.s1 t.s2 t.s3 t.s4 t.s5 t.s6 t.s7 (fun L => tv _ _ _ L) t.f1 t.f2 t.f3
                (He.eqO_ok a1) (He.eqO_ok c7) (dB_ok c8) (dB_ok c9) (He.eqO_ok a2) (He.eqO_ok c10) (of_decide_eq_true c11) c12 tp (dB_ok c13) (of_decide_eq_true c14) (He.eqO_ok c15) (He.eqO_ok c16) (He.eqO_ok c17) (He.eqO_ok a3) (dB_ok a4) (dB_ok c18) (He.eqO_ok c19)
            · cases k4
          · cases k4
        · cases k3
      | _ =>
        unfold xiCode at c6
        cases c6
    | _ => cases e
end Rm
/-! The hook of such a head and the law's end over it. -/
namespace Rm
open PySem PySem.W PySem.Calls PyProof.Rows PySem.Spec L2 LamX
/-- what the module's names and the statics reach in n steps -/
def asR (g : Addr → Option Obj) : Nat → List Addr
  | 0 => [mainGlobals, cStatics]
  | n + 1 => He.growD g (asR g n)
abbrev AlR : Type := He.AlD × (List XiV × Bool)
def obsR (n : Nat) (fa : List He.Fa) (fn : List He.DefD) (xs : List XiD) (tf : List He.Defn) (ex : Frag → Bool) (g : Addr → Option Obj) : AlR :=
  (He.obsD fa fn (He.frT g (asR g n)), (xs.map fun d => xiObs (He.frT g (asR g n)) d.x, ex (He.frT g (asR g n)) && He.tabsB g tf (He.frT g (asR g n))))
def valR (fn : List He.DefD) (xs : List XiD) : AlR := (He.valD fn, (xs.map XiD.val, true))
structure SaysR (fa : List He.Fa) (fn : List He.DefD) (xs : List XiD) (tf : List He.Defn) (ex : Frag → Bool) (h : Heap) (K : Frag) : Prop where
  d : He.SaysD fa fn K
  x : xs.map (fun d => xiObs K d.x) = xs.map XiD.val
  more : ex K = true
  hd : ∀ p ∈ tf, codeHdIn K (He.cT K p).1 (He.cT K p).2 = true
  out : ∀ p ∈ tf, K.lookup (He.cT K p).2 = none
  empty : ∀ p ∈ tf, h.get? (He.cT K p).2 = some { cls := .none, data := .fields #[] }
theorem saysR_of {n : Nat} {fa : List He.Fa} {fn : List He.DefD} {xs : List XiD} {tf : List He.Defn} {ex : Frag → Bool} {h : Heap} (e : obsR n fa fn xs tf ex h.get? = valR fn xs) : SaysR fa fn xs tf ex h (He.frT h.get? (asR h.get? n)) := by
  have e1 := congrArg (fun z : AlR => z.1) e
  have e2 := congrArg (fun z : AlR => z.2.1) e
  have e3 : (ex (He.frT h.get? (asR h.get? n)) && He.tabsB h.get? tf (He.frT h.get? (asR h.get? n))) = true := congrArg (fun z : AlR => z.2.2) e
  obtain ⟨h1, h2⟩ := He.ba e3
  have key : ∀ p ∈ tf, codeHdIn (He.frT h.get? (asR h.get? n)) (He.cT (He.frT h.get? (asR h.get? n)) p).1 (He.cT (He.frT h.get? (asR h.get? n)) p).2 = true ∧ ∃ o, h.get? (He.cT (He.frT h.get? (asR h.get? n)) p).2 = some o ∧ He.emptyTab o = true := fun p hp => by
    obtain ⟨h3, h4⟩ := He.ba (List.all_eq_true.mp h2 p hp)
    refine ⟨h3, ?_⟩
    cases q : h.get? (He.cT (He.frT h.get? (asR h.get? n)) p).2 with
    | none =>
      rw [q] at h4
      cases h4
    | some o =>
      rw [q] at h4
      exact ⟨o, rfl, h4⟩
  exact ⟨e1, e2, h1, fun p hp => (key p hp).1, fun p hp => by
    obtain ⟨_, o, q, z⟩ := key p hp
    exact He.frT_none q z, fun p hp => by
    obtain ⟨_, o, q, z⟩ := key p hp
    rw [q, He.emptyTab_eq z]⟩
def hookR (n : Nat) (fa : List He.Fa) (fn : List He.DefD) (xs : List XiD) (tf : List He.Defn) (ex : Frag → Bool) : Hook where
  α := AlR
  obs := fun s => obsR n fa fn xs tf ex s.heap.get?
  val := fun _ => valR fn xs
  says := fun _ h => ∃ K : Frag, K.In h ∧ SaysR fa fn xs tf ex h K
  of := fun _ _ e => ⟨_, He.frT_in, saysR_of e⟩
  keeps := fun _ _ _ ⟨K, hK, c⟩ k => ⟨K, Frag.In.keeps hK k, ⟨c.d, c.x, c.more, c.hd, c.out, fun p hp => k _ _ (c.empty p hp)⟩⟩
theorem obsR_eq {n : Nat} {fa : List He.Fa} {fn : List He.DefD} {xs : List XiD} {tf : List He.Defn} {ex : Frag → Bool} {g : Addr → Option Obj} {s : Shared} (h : ∀ a, g a = s.heap.get? a) : obsR n fa fn xs tf ex g = (hookR n fa fn xs tf ex).obs s := by
  have e : g = s.heap.get? := funext h
  rw [e] <;> rfl
section
variable {fa : List He.Fa} {fn : List He.DefD} {xs : List XiD} {tf : List He.Defn} {ex : Frag → Bool} {h : Heap} {K : Frag}
theorem SaysR.xi (c : SaysR fa fn xs tf ex h K) (i : Nat) {d : XiD} (hi : xs[i]? = some d) : xiObs K d.x = d.val := by
  have e2 : (xs.map fun d => xiObs K d.x)[i]? = (xs.map XiD.val)[i]? := by rw [c.x]
  rw [List.getElem?_map, List.getElem?_map, hi] at e2
  exact Option.some.inj e2
/-- a def without defaults -/
theorem fun_of {x : Str} {st : Stmt} {f : Addr} {fd : FuncData} (F : FunD K x x (defArgs st) (defBody st) (defScope st) [] [] f fd) : Fun K x x st f fd := by
  obtain ⟨⟨oc, od, dV, kV, doc, pm, an, cdv, ct, osl, e1, e2, e3, e4, e5⟩, kp⟩ := F
  rcases e4 with ⟨_, rfl⟩ | ⟨z, _⟩
  · exact ⟨⟨oc, od, kV, doc, pm, an, cdv, ct, osl, e1, e2, e3⟩, kp⟩
  · exact absurd rfl z
theorem code_of {x : Str} {st : Stmt} {fd : FuncData} (F : Fun K x x st (He.ga K x) fd) : fd.code = .ref (He.cT K (x, none)).1 := by
  obtain ⟨⟨oc, od, kV, doc, pm, an, cdv, ct, osl, e1, e2, e3⟩, kp⟩ := F
  obtain ⟨c, hc⟩ := He.codeIn_ref e3
  have e4 : fd.code = .ref c := by rw [e1, ← hc]
  have e5 : He.codeOf K (x, none) = c := He.codeOf_eq (p := (x, none)) e2 e4
  rw [e4]
  show _ = Value.ref (He.codeOf K (x, none))
  rw [e5]
end
/-- the law's end over such a head -/
theorem walk_ofGX {l : OpenLaw} {n k : Nat} {q : Program} {loose : List Str} {XP : (Str → Option Value) → Heap → Prop} {YP : World → Heap → Prop} {d : DefRec}
    (hn : l.most = some n) (hn2 : n ≤ sizeLine) (hdf : d.params.defaults = []) (hr : Room k callerA)
    (F : ∀ (w : World) (mg : Str → Option Value) (fa : Addr) (h : Heap), YP w h → h.Ns mainGlobals mg → mg d.name = some (.ref fa) →
      ∃ (K : Frag) (cs : List (Addr × Addr)) (sp : Sp), K.In h ∧ (∀ p ∈ cs, CodeHd h p.1 p.2 ∧ h.get? p.2 = some { cls := .none, data := .fields #[] } ∧ K.lookup p.2 = none) ∧
        (∀ base : Heap, K.In base → base.Ns mainGlobals mg → (∀ p ∈ cs, TabB base mg p.1 p.2) → CallG l.prog w K mg base k fa [] sp) ∧
        (∀ (H : Hp) (a : Addr) (ns : List Int), ns.length ≤ n → (∀ z ∈ ns, Builtin.Int.intBits z ≤ 1048576) → (∀ p ∈ cs, H p.2 = some (.tbl #[])) → SqL K H a (ns.map V.int) → sp [.ref a] H (fun v _ => v = .bl true) fun _ _ _ => False)) :
    WalkO q loose XP YP l.row.toRowW d [] (fun f vs => PySem.call f vs) :=
  Att.attach_callB hn hdf fun w _ s₁ mg mb fa o pm cd doc a vs ns G Y ho hd hcd hmg hobj hints hlen hbits hg => by
    obtain ⟨K, cs, sp, KX, h1, h2, h3⟩ := F w mg fa _ Y G.T.g hmg
    exact lawGT KX G.T.g G.T.b G.T.builtins G.T.nolimit hg (fun p hp => (h1 p hp).2.1) (fun p hp => (h1 p hp).2.2) (fun p hp => (h1 p hp).1) G.T.bmain hobj hints (Nat.le_trans hlen hn2) hr h2 fun H hH hS => h3 H a ns hlen hbits hH hS
end Rm
/-! What a lambda handed over told, while tables of code objects grow. -/
namespace Rm
open PySem PySem.W PySem.Calls PyProof.Rows PySem.Spec L2 LamX SX
theorem Car.updF {H H6 H9 : Hp} {p : Addr} {o : HO} (c6 : Car H H6) (h6 : H6 p = none) (c9 : Car H H9) : Car H (upd H9 p o) := by
  have ne : ∀ {a : Addr} {u : HO}, Rd H6 a u → a ≠ p := fun {a u} r z => by
    subst z
    rcases r with r | ⟨_, r⟩ <;> (rw [h6] at r; cases r)
  have up : ∀ {a : Addr} {u : HO}, a ≠ p → Rd H9 a u → Rd (upd H9 p o) a u := fun {a u} n r => by
    rcases r with r | ⟨x, r⟩
    · exact .inl (by rw [upd_ne n]; exact r)
    · exact .inr ⟨x, by rw [upd_ne n]; exact r⟩
  exact ⟨fun a xs r => up (ne (c6.lst a xs r)) (c9.lst a xs r), fun a xs r => up (ne (c6.tup a xs r)) (c9.tup a xs r)⟩
theorem ExtN.updF {H H6 H9 : Hp} {p : Addr} {o : HO} (x6 : ExtN H H6) (h6 : H6 p = none) (x9 : ExtN H H9) : ExtN H (upd H9 p o) := fun b u e n => by
  have nb : b ≠ p := fun z => by
    have := x6 b u e n
    rw [z, h6] at this
    cases this
  rw [upd_ne nb]
  exact x9 b u e n
theorem codeO_neL {c : Addr} {q : Str} (xs : List V) : CodeO c q ≠ .lst xs := fun z => by
  unfold CodeO at z
  cases z
theorem Tabs.updL {T : List (Addr × Str)} {H : Hp} {p : Addr} {o : HO} {xs : List V} (t : Tabs T H) (h : H p = some (.lst xs)) : Tabs T (upd H p o) := fun q hq => by
  obtain ⟨ps, h1, h2, h3⟩ := t q hq
  refine ⟨ps, ?_, h2, fun pos cv hc => ?_⟩
  · rw [upd_ne fun z => by rw [z, h] at h1; cases h1]
    exact h1
  · obtain ⟨c, e1, e2⟩ := h3 pos cv hc
    refine ⟨c, e1, ?_⟩
    rw [upd_ne fun z => by
      rw [z, h] at e2
      exact codeO_neL xs (Option.some.inj e2).symm]
    exact e2
/-- data that is all of new objects -/
def DataN (K : Frag) (H2 H' : Hp) (a : Addr) (d : PyData) : Prop := ∀ G : Hp, (∀ b u, H2 b = none → (∀ ps, u ≠ .tbl ps) → H' b = some u → G b = some u) → Dp K G (.ref a) d
theorem DataN.self {K : Frag} {H2 H' : Hp} {a : Addr} {d : PyData} (h : DataN K H2 H' a d) : Dp K H' (.ref a) d := h H' fun _ _ _ _ e => e
/-- what parse_number tells of data -/
def judD (d : PyData) : PyData := match txtNum d with
  | some (p, q) => .list [.tuple [.int p, .int q]]
  | none => .tuple [.str "text", .int 0]
/-- what is made of an answer and of a refusal -/
structure ToldP (Q : VK) (C : Addr) (El : XK) (R : VK) (H1 : Hp) : Prop where
  r : ∀ v H', (∀ p, H' p = none → Q (.ref p) (upd H' p (.lst [v]))) → R v H'
  e : ∀ dd H', Ex H1 H' → H' dd = some (.xd [("line", .int 0)]) → (∀ p H2, Ex H' H2 → H' p = none → H2 p = some (.tup [.str "text", .int 0]) → Q (.ref p) H2) → El (.ref C) (some dd) H'
def ttTold (C : Addr) : (XK → Hp → VK → Prop) → Hp → VK → XK → Prop := fun tl H Q _ => ∀ (El : XK) (R : VK) H1, Ex H H1 → ToldP Q C El R H1 → tl El H1 R
theorem parse_in {K : Frag} {C : Addr} {x : V} {d : PyData} {H2 : Hp} {Q R : VK} {El : XK} (hx : Dp K H2 x d) (hz : ∀ z, d = .str z → z.length ≤ 16000000) (h : ToldP Q C El R H2)
    (fin : ∀ a H', Ex H2 H' → DataN K H2 H' a (judD d) → Q (.ref a) H') : spParse K C [x] H2 R El := by
  obtain ⟨hR, hE⟩ := h
  refine ⟨_, rfl, d, hx, hz, fun hn dd H' e' hd => hE dd H' e' hd fun p H3 e3 hp h3 => fin p H3 (e'.trans e3) fun G hG => ?_, fun p q hs a H' ha e' h' => hR _ _ fun pl hpl => fin pl _ (e'.trans (Evl.Ex.new hpl)) fun G hG => ?_⟩
  · unfold judD
    rw [hn]
    exact .tup (SqT.of (hG p _ (exn e' hp) (fun ps z => by cases z) h3)) (.cons (.str _) (.cons (.int _) .nil))
  · unfold judD
    rw [hs]
    have na : a ≠ pl := fun z => by rw [z] at h'; rw [h'] at hpl; cases hpl
    exact .lst (SqL.of (hG pl _ (exn e' hpl) (fun ps z => by cases z) upd_same)) (.cons (.tup (SqT.of (hG a _ ha (fun ps z => by cases z) (by rw [upd_ne na]; exact h'))) (.cons (.int _) (.cons (.int _) .nil))) .nil)
theorem judD_gd {d : PyData} : Gd 2 20000 (judD d) := by
  unfold judD
  cases h : txtNum d with
  | none =>
    have g1 : Gd 0 1921 (.int 0) := Gd.int (Bd.mono (m := 1) (by unfold Bd; decide) (by decide))
    have g2 : Gd 0 1921 (.str "text") := Gd.str (by decide +kernel)
    exact (Gd.pair g2 g1).mono (by decide) (by decide)
  | some pq =>
    obtain ⟨p, q⟩ := pq
    obtain ⟨z, rfl⟩ : ∃ z, d = .str z := by
      cases d <;> first | exact ⟨_, rfl⟩ | cases h
    obtain ⟨b1, b2⟩ := numOf_bd h
    have gp := Gd.pair (Gd.int (b1.mono (show 1396 ≤ 1900 by decide))) (Gd.int (b2.mono (show 1396 ≤ 1900 by decide)))
    exact (Gd.lst (ds := [.tuple [.int p, .int q]]) fun x hx => by rw [List.mem_singleton.mp hx]; exact gp).mono (by decide) (by simp)
theorem judD_two {d : PyData} : Gd 100 16000000 (.list [judD d, judD d]) := (Gd.two judD_gd judD_gd).mono (by decide) (by decide)
theorem DrawAt.extN {K : Frag} {H H' : Hp} {d : Addr} {n : Nat} (h : DrawAt K H d n) (e : ExtN H H') : DrawAt K H' d n := by
  obtain ⟨c, cells, a, l, u, h1, h2, h3⟩ := h
  exact ⟨c, cells, a, l, u, e _ _ h1 (fun ps z => by cases z), (Car.extN e).l h2, h3⟩
theorem codeO_neD {c : Addr} {q : Str} (xs : List (Key × V)) : CodeO c q ≠ .dK xs := fun z => by
  unfold CodeO at z
  cases z
theorem Tabs.exb {K : Frag} {T : List (Addr × Str)} {H H' : Hp} {d : Addr} {n : Nat} (t : Tabs T H) (h : DrawAt K H d n) (e : Exb d H H') : Tabs T H' := fun q hq => by
  obtain ⟨c0, cells, a, l, u, hd, _⟩ := h
  obtain ⟨ps, h1, h2, h3⟩ := t q hq
  refine ⟨ps, e _ _ (fun z => by rw [z, hd] at h1; cases h1) h1, h2, fun pos cv hc => ?_⟩
  obtain ⟨c, e1, e2⟩ := h3 pos cv hc
  exact ⟨c, e1, e _ _ (fun z => by rw [z, hd] at e2; exact codeO_neD _ (Option.some.inj e2).symm) e2⟩
theorem g400_1400 : G400 < 2 ^ 1400 := by decide +kernel
theorem g400_bd {p : Int} (h : p.natAbs < G400) : Bd 1400 p := Nat.lt_trans h g400_1400
theorem okL_text (p q : Int) : okL (TL.tl (ntext p q)) := fun c hc => by
  have h := strOk_num p q
  have h : (ntext p q).cps.all (· < 0x110000) = true := h
  rw [← Array.all_toList] at h
  exact of_decide_eq_true (List.all_eq_true.mp h c hc)
theorem Gs.lit {n : Nat} (x : Str) (h : x.length ≤ n) (hk : x.cps.toList.all (fun c => decide (c < 1114112)) = true) : Gs n x :=
  ⟨x.cps.toList, (S_tl x).symm, by rw [Array.length_toList]; exact h, fun c hc => of_decide_eq_true (List.all_eq_true.mp hk c hc)⟩
theorem Gs.rep {k c n : Nat} (h : k ≤ n) (hc : c < 1114112) : Gs n (S (List.replicate k c)) :=
  ⟨_, rfl, by rw [List.length_replicate]; exact h, fun x hx => by rw [List.eq_of_mem_replicate hx]; exact hc⟩
theorem Gd.text {x : Str} {l : List Nat} (e : x = S l) (hk : okL l) (hl : l.length ≤ 4000) : Gd 0 41000 (.str x) := by
  refine Gd.str ?_
  subst e
  have h1 := PySem.StrLaws.reprText_len (S l) fun c hc => by
    have := hk c (by simpa using hc)
    omega
  have h2 : (S l).length = l.length := S_len l
  omega
end Rm
namespace K40
open PySem PySem.W PySem.Calls PyProof.Rows PySem.Spec L2 Rm SX LamX
def top (i : Nat) : Stmt := PySem.Challenge.pw_roompace_k40_texts_of_numbers.main.body.getD i (.Pass ⟨0, 0, 0, 0⟩)
abbrev s_is_integer : Stmt := top 7
abbrev s_common_divisor : Stmt := top 8
abbrev s_is_number : Stmt := top 9
abbrev s_check_numbers : Stmt := top 10
abbrev s_number_text : Stmt := top 11
abbrev s_integer_of : Stmt := top 15
abbrev s_number_of : Stmt := top 16
abbrev s_parse_number : Stmt := top 18
abbrev s__law_begin : Stmt := top 20
abbrev s__law_mixed : Stmt := top 21
abbrev s__law_next : Stmt := top 22
abbrev s__law_least : Stmt := top 23
abbrev s__law_choose : Stmt := top 24
abbrev s__law_written : Stmt := top 25
abbrev s__law_is_digits : Stmt := top 26
abbrev s__law_number_of : Stmt := top 27
abbrev s__law_told : Stmt := top 28
abbrev s__law_marks : Stmt := top 29
abbrev s__law_value : Stmt := top 30
abbrev s__law_bent : Stmt := top 31
abbrev s__law_judged : Stmt := top 32
abbrev s__law_chosen_right : Stmt := top 33
abbrev s_law : Stmt := top 34
structure Ad where
  (is_integer common_divisor is_number check_numbers number_text integer_of number_of parse_number _law_begin _law_mixed _law_next _law_least _law_choose _law_written _law_is_digits _law_number_of _law_told _law_marks _law_value _law_bent _law_judged _law_chosen_right law InvalidNumber InvalidText MissingError PaceError StateError c__law_judged p__law_judged c__law_chosen_right p__law_chosen_right : Addr)
def TABS (D : Ad) : List (Addr × Str) := [(D.p__law_judged, ("_law_judged" : Str) ++ (".<locals>." : Str) ++ ("<lambda>" : Str)), (D.p__law_chosen_right, ("_law_chosen_right" : Str) ++ (".<locals>." : Str) ++ ("<lambda>" : Str))]
structure Txt (P : Program) (K : Frag) (mg : Str → Option Value) (base : Heap) (D : Ad) : Prop where
  tb__law_judged : TabB base mg D.c__law_judged D.p__law_judged
  tb__law_chosen_right : TabB base mg D.c__law_chosen_right D.p__law_chosen_right
  np__law_judged__law_chosen_right : D.p__law_judged ≠ D.p__law_chosen_right
  f_is_integer : ∃ fd, Fun K "is_integer" "is_integer" s_is_integer D.is_integer fd
  g_is_integer : mg "is_integer" = some (.ref D.is_integer)
  k_is_integer : keepIn K (.ref D.is_integer) = true
  f_common_divisor : ∃ fd, Fun K "common_divisor" "common_divisor" s_common_divisor D.common_divisor fd
  g_common_divisor : mg "common_divisor" = some (.ref D.common_divisor)
  k_common_divisor : keepIn K (.ref D.common_divisor) = true
  f_is_number : ∃ fd, Fun K "is_number" "is_number" s_is_number D.is_number fd
  g_is_number : mg "is_number" = some (.ref D.is_number)
  k_is_number : keepIn K (.ref D.is_number) = true
  f_check_numbers : ∃ fd, Fun K "check_numbers" "check_numbers" s_check_numbers D.check_numbers fd
  g_check_numbers : mg "check_numbers" = some (.ref D.check_numbers)
  k_check_numbers : keepIn K (.ref D.check_numbers) = true
  f_number_text : ∃ fd, Fun K "number_text" "number_text" s_number_text D.number_text fd
  g_number_text : mg "number_text" = some (.ref D.number_text)
  k_number_text : keepIn K (.ref D.number_text) = true
  f_integer_of : ∃ fd, Fun K "integer_of" "integer_of" s_integer_of D.integer_of fd
  g_integer_of : mg "integer_of" = some (.ref D.integer_of)
  k_integer_of : keepIn K (.ref D.integer_of) = true
  f_number_of : ∃ fd, Fun K "number_of" "number_of" s_number_of D.number_of fd
  g_number_of : mg "number_of" = some (.ref D.number_of)
  k_number_of : keepIn K (.ref D.number_of) = true
  f_parse_number : ∃ fd, Fun K "parse_number" "parse_number" s_parse_number D.parse_number fd
  g_parse_number : mg "parse_number" = some (.ref D.parse_number)
  k_parse_number : keepIn K (.ref D.parse_number) = true
  f__law_begin : ∃ fd, Fun K "_law_begin" "_law_begin" s__law_begin D._law_begin fd
  g__law_begin : mg "_law_begin" = some (.ref D._law_begin)
  k__law_begin : keepIn K (.ref D._law_begin) = true
  f__law_mixed : ∃ fd, Fun K "_law_mixed" "_law_mixed" s__law_mixed D._law_mixed fd
  g__law_mixed : mg "_law_mixed" = some (.ref D._law_mixed)
  k__law_mixed : keepIn K (.ref D._law_mixed) = true
  f__law_next : ∃ fd, Fun K "_law_next" "_law_next" s__law_next D._law_next fd
  g__law_next : mg "_law_next" = some (.ref D._law_next)
  k__law_next : keepIn K (.ref D._law_next) = true
  f__law_least : ∃ fd, Fun K "_law_least" "_law_least" s__law_least D._law_least fd
  g__law_least : mg "_law_least" = some (.ref D._law_least)
  k__law_least : keepIn K (.ref D._law_least) = true
  f__law_choose : ∃ fd, Fun K "_law_choose" "_law_choose" s__law_choose D._law_choose fd
  g__law_choose : mg "_law_choose" = some (.ref D._law_choose)
  k__law_choose : keepIn K (.ref D._law_choose) = true
  f__law_written : ∃ fd, Fun K "_law_written" "_law_written" s__law_written D._law_written fd
  g__law_written : mg "_law_written" = some (.ref D._law_written)
  k__law_written : keepIn K (.ref D._law_written) = true
  f__law_is_digits : ∃ fd, Fun K "_law_is_digits" "_law_is_digits" s__law_is_digits D._law_is_digits fd
  g__law_is_digits : mg "_law_is_digits" = some (.ref D._law_is_digits)
  k__law_is_digits : keepIn K (.ref D._law_is_digits) = true
  f__law_number_of : ∃ fd, Fun K "_law_number_of" "_law_number_of" s__law_number_of D._law_number_of fd
  g__law_number_of : mg "_law_number_of" = some (.ref D._law_number_of)
  k__law_number_of : keepIn K (.ref D._law_number_of) = true
  f__law_told : ∃ fd, Fun K "_law_told" "_law_told" s__law_told D._law_told fd
  g__law_told : mg "_law_told" = some (.ref D._law_told)
  k__law_told : keepIn K (.ref D._law_told) = true
  f__law_marks : ∃ fd, Fun K "_law_marks" "_law_marks" s__law_marks D._law_marks fd
  g__law_marks : mg "_law_marks" = some (.ref D._law_marks)
  k__law_marks : keepIn K (.ref D._law_marks) = true
  f__law_value : ∃ fd, Fun K "_law_value" "_law_value" s__law_value D._law_value fd
  g__law_value : mg "_law_value" = some (.ref D._law_value)
  k__law_value : keepIn K (.ref D._law_value) = true
  f__law_bent : ∃ fd, Fun K "_law_bent" "_law_bent" s__law_bent D._law_bent fd
  g__law_bent : mg "_law_bent" = some (.ref D._law_bent)
  k__law_bent : keepIn K (.ref D._law_bent) = true
  f__law_judged : ∃ fd, Fun K "_law_judged" "_law_judged" s__law_judged D._law_judged fd ∧ fd.code = .ref D.c__law_judged
  g__law_judged : mg "_law_judged" = some (.ref D._law_judged)
  k__law_judged : keepIn K (.ref D._law_judged) = true
  f__law_chosen_right : ∃ fd, Fun K "_law_chosen_right" "_law_chosen_right" s__law_chosen_right D._law_chosen_right fd ∧ fd.code = .ref D.c__law_chosen_right
  g__law_chosen_right : mg "_law_chosen_right" = some (.ref D._law_chosen_right)
  k__law_chosen_right : keepIn K (.ref D._law_chosen_right) = true
  f_law : ∃ fd, Fun K "law" "law" s_law D.law fd
  g_law : mg "law" = some (.ref D.law)
  k_law : keepIn K (.ref D.law) = true
  n_abs : mg "abs" = none
  n_all : mg "all" = none
  n_bool : mg "bool" = none
  n_int : mg "int" = none
  n_isinstance : mg "isinstance" = none
  n_len : mg "len" = none
  n_list : mg "list" = none
  n_min : mg "min" = none
  n_range : mg "range" = none
  n_repr : mg "repr" = none
  n_str : mg "str" = none
  n_tuple : mg "tuple" = none
  g_InvalidNumber : mg "InvalidNumber" = some (.ref D.InvalidNumber)
  g_InvalidText : mg "InvalidText" = some (.ref D.InvalidText)
  g_MissingError : mg "MissingError" = some (.ref D.MissingError)
  g_PaceError : mg "PaceError" = some (.ref D.PaceError)
  g_StateError : mg "StateError" = some (.ref D.StateError)
  k_InvalidNumber : keepIn K (.ref D.InvalidNumber) = true
  x_InvalidNumber : XCls P K mg "ValueError" "ValueError.__new__" "ValueError.__init__" [.type "ValueError", .type "Exception", .type "BaseException", .type "object"] "thing" D.InvalidNumber
  z_InvalidNumber : ∀ X : Cx, X.K = K → Raises X (.ref D.InvalidNumber)
  t_InvalidNumber : XKit K D.InvalidNumber
  h_InvalidNumber : findIn K (.ref D.InvalidNumber) "thing" = some none
  k_InvalidText : keepIn K (.ref D.InvalidText) = true
  x_InvalidText : XCls P K mg "ValueError" "ValueError.__new__" "ValueError.__init__" [.type "ValueError", .type "Exception", .type "BaseException", .type "object"] "line" D.InvalidText
  z_InvalidText : ∀ X : Cx, X.K = K → Raises X (.ref D.InvalidText)
  t_InvalidText : XKit K D.InvalidText
  h_InvalidText : findIn K (.ref D.InvalidText) "line" = some none
  g_DIGITS : ∃ u, mg "DIGITS" = some u ∧ RelV (.str "0123456789") u
  g_MOST_DIGITS : ∃ u, mg "MOST_DIGITS" = some u ∧ RelV (.int 420) u
  e_InvalidText : exmAny K (.ref D.InvalidText) [.ref D.PaceError, .ref D.StateError, .ref D.MissingError] = some true
  i_InvalidText : kitOne K (.ref D.InvalidText) (.ref D.InvalidText) = some true
theorem tabs__law_judged {D : Ad} : (D.p__law_judged, ("_law_judged" : Str) ++ (".<locals>." : Str) ++ ("<lambda>" : Str)) ∈ TABS D := by simp [TABS]
theorem tabs_u__law_judged {P : Program} {K : Frag} {mg : Str → Option Value} {base : Heap} {D : Ad} (T : Txt P K mg base D) : ∀ p ∈ TABS D, p.1 = D.p__law_judged → p.2 = ("_law_judged" : Str) ++ (".<locals>." : Str) ++ ("<lambda>" : Str) := by
  intro p hp e
  simp only [TABS, List.mem_cons, List.not_mem_nil, or_false] at hp
  rcases hp with rfl | rfl
  · rfl
  · exact absurd e.symm T.np__law_judged__law_chosen_right
theorem tabs__law_chosen_right {D : Ad} : (D.p__law_chosen_right, ("_law_chosen_right" : Str) ++ (".<locals>." : Str) ++ ("<lambda>" : Str)) ∈ TABS D := by simp [TABS]
theorem tabs_u__law_chosen_right {P : Program} {K : Frag} {mg : Str → Option Value} {base : Heap} {D : Ad} (T : Txt P K mg base D) : ∀ p ∈ TABS D, p.1 = D.p__law_chosen_right → p.2 = ("_law_chosen_right" : Str) ++ (".<locals>." : Str) ++ ("<lambda>" : Str) := by
  intro p hp e
  simp only [TABS, List.mem_cons, List.not_mem_nil, or_false] at hp
  rcases hp with rfl | rfl
  · exact absurd e T.np__law_judged__law_chosen_right
  · rfl
section
variable {P : Program} {w : World} {K : Frag} {mg : Str → Option Value} {base : Heap} {D : Ad}
abbrev N_is_integer : List Str := ["thing"]
theorem sc_is_integer : FnScope N_is_integer ["thing"] (defScope s_is_integer) := ⟨rfl, rfl, rfl, by decide +kernel, rfl, by decide +kernel, by decide +kernel⟩
theorem fb_is_integer (T : Txt P K mg base D) : ∃ fd, Fun K "is_integer" "is_integer" s_is_integer D.is_integer fd ∧ FnB P w K mg base 1 D.is_integer fd ["thing"] (spIsInt K) := by
  obtain ⟨fd, F⟩ := T.f_is_integer
  refine ⟨fd, F, Fun_okB (k := 0) F sc_is_integer fun cdv A outer s H vs Q E hr hg h => ?_⟩
  have nd := sc_is_integer.nd
  obtain ⟨x, rfl, d, hd, q⟩ := h
  refine ⟨_, (pss_one (ps_ret (pe_and (pe_callB call_isD rfl T.n_isinstance (by decide +kernel) (pa_cons (pv 0) (pa_cons (pe_bltn (v := .ty "int") rfl T.n_int (by decide +kernel) rfl) pa_nil))) (pe_one (pe_not (pe_callB call_isD rfl T.n_isinstance (by decide +kernel) (pa_cons (pv 0) (pa_cons (pe_bltn (v := .ty "bool") rfl T.n_bool (by decide +kernel) rfl) pa_nil)))))))), ?_⟩
  refine ⟨_, rfl, _, _, d, _, rfl, hd, kit_int d, _, rfl, ?_⟩
  cases d <;> first | exact iteF q | exact iteT ⟨_, rfl, _, _, _, _, rfl, hd, kit_bool _, _, rfl, q⟩
theorem ok_is_integer (T : Txt P K mg base D) : CallG P w K mg base 1 D.is_integer [] (spIsInt K) := by
  obtain ⟨fd, F, B⟩ := fb_is_integer (w := w) (base := base) T
  exact B.pos sp1_len (F.binds (ps := ["thing"]) fun _ _ _ _ _ _ us hl => match us, hl with | [_], _ => rfl)
abbrev N_common_divisor : List Str := ["first", "second"]
theorem sc_common_divisor : FnScope N_common_divisor ["first", "second"] (defScope s_common_divisor) := ⟨rfl, rfl, rfl, by decide +kernel, rfl, by decide +kernel, by decide +kernel⟩
theorem fb_common_divisor (T : Txt P K mg base D) : ∃ fd, Fun K "common_divisor" "common_divisor" s_common_divisor D.common_divisor fd ∧ FnB P w K mg base 1 D.common_divisor fd ["first", "second"] spGcd := by
  obtain ⟨fd, F⟩ := T.f_common_divisor
  refine ⟨fd, F, Fun_okB (k := 0) F sc_common_divisor fun cdv A outer s H vs Q E hr hg h => ?_⟩
  have nd := sc_common_divisor.nd
  obtain ⟨x, y, rfl, a, b, rfl, rfl, q⟩ := h
  refine ⟨_, (pss_cons (ps_par rfl nd (i := 0) (j := 1) rfl rfl (by decide) rfl rfl (pa_cons (pe_callB call_abs rfl T.n_abs (by decide +kernel) (pa_cons (pv 0) pa_nil)) (pa_cons (pe_callB call_abs rfl T.n_abs (by decide +kernel) (pa_cons (pv 1) pa_nil)) pa_nil)) (by rfl))
        (pss_cons (ps_while (passes_of rfl) (pt_cmpR op_gt (pv 1) pe_int (nomark _)) (pss_one (ps_par rfl nd (i := 0) (j := 1) rfl rfl (by decide) rfl rfl (pa_cons (pv 1) (pa_cons (pe_op op_mod (pv 0) (pv 1)) pa_nil)) (by rfl))))
        (pss_one (ps_ret (pv 0))))), ?_⟩
  refine ⟨_, rfl, _, rfl, _, rfl, _, rfl, _, _, rfl, ?_⟩
  refine while_by (fun σ H' => ∃ x y : Int, σ = [some (.int x), some (.int y)] ∧ H' = H ∧ 0 ≤ x ∧ 0 ≤ y ∧ Int.gcd x y = Int.gcd a b)
    (fun σ _ => match σ with | [_, some (.int y)] => y.toNat | _ => 0) ⟨if a < 0 then -a else a, if b < 0 then -b else b, rfl, rfl, by split <;> omega, by split <;> omega, ?_⟩ ?_ ?_
  · split <;> split <;> simp [Int.gcd]
  · rintro σ H' ⟨x, y, rfl, rfl, hx, hy, hg'⟩
    refine ⟨_, rfl, _, _, rfl, rfl, _, rfl, ?_⟩
    refine iteB (fun c => ?_) (fun c => ?_)
    · have hy' : 0 < y := of_decide_eq_true c
      refine ⟨_, rfl, _, rfl, _, rfl, _, _, rfl, rfl, hy', _, _, rfl, ⟨y, x % y, rfl, rfl, hy, Int.emod_nonneg _ (by omega), by rw [gcd_step hx hy', hg']⟩, ?_⟩
      have := Int.emod_lt_of_pos x hy'
      have := Int.emod_nonneg x (show y ≠ 0 by omega)
      show (x % y).toNat < y.toNat
      omega
    · have hy' : ¬ 0 < y := of_decide_eq_false c
      have hy0 : y = 0 := by omega
      refine ⟨_, rfl, ?_⟩
      subst hy0
      have : (x : Int) = (Int.gcd a b : Nat) := by rw [← hg']; simp [Int.gcd]; omega
      rw [this]
      exact q
  · rintro σ H' Q1 Q2 hq ⟨v, e, i, j, e1, e2, k, e3, z⟩
    exact ⟨v, e, i, j, e1, e2, k, e3, hq _ _ z⟩
theorem ok_common_divisor (T : Txt P K mg base D) : CallG P w K mg base 1 D.common_divisor [] spGcd := by
  obtain ⟨fd, F, B⟩ := fb_common_divisor (w := w) (base := base) T
  exact B.pos sp2_len (F.binds (ps := ["first", "second"]) fun _ _ _ _ _ _ us hl => match us, hl with | [_, _], _ => rfl)
abbrev N_integer_of : List Str := ["word", "sign"]
theorem sc_integer_of : FnScope N_integer_of ["word"] (defScope s_integer_of) := ⟨rfl, rfl, rfl, by decide +kernel, rfl, by decide +kernel, by decide +kernel⟩
theorem fb_integer_of (T : Txt P K mg base D) : ∃ fd, Fun K "integer_of" "integer_of" s_integer_of D.integer_of fd ∧ FnB P w K mg base 1 D.integer_of fd ["word"] spIntOf := by
  obtain ⟨fd, F⟩ := T.f_integer_of
  refine ⟨fd, F, Fun_okB (k := 0) F sc_integer_of fun cdv A outer s H vs Q E hr hg h => ?_⟩
  have nd := sc_integer_of.nd
  obtain ⟨x, rfl, l, rfl, hl, hq⟩ := h
  refine ⟨_, (pss_cons (ps_if (PW.pt (pw_or (pt_not (pt_chain op_le op_le pe_int (pe_callB call_len_str rfl T.n_len (by decide +kernel) (pa_cons (pv 0) pa_nil)) (pe_gcc (v := .int 420) rfl T.g_MOST_DIGITS))) (pw_or1 (pt_not (pt_val (pe_callB (cr_all rfl) rfl T.n_all (by decide +kernel) (pa_cons (pe_lc (own := [("sign", 1)]) (g := gName 1) (by rfl) nd (pi_str (pv 0)) (blkOk_by (own := [("sign", 1)]) (N := N_integer_of) (sc := defScope s_integer_of) (by decide +kernel)) (fun _ _ _ _ _ => pg_name (i := 1) nd rfl (Or.inl rfl)) (fun _ _ _ _ _ => pts_nil) (fun _ _ _ _ _ => (pe_cmpR op_in_sign (pv 1) (pe_gcc (v := .str "0123456789") rfl T.g_DIGITS) rfl))) pa_nil))))))) (pss_one (ps_ret pe_non)) pss_nil)
        (pss_one (ps_ret (pe_ifExp (PW.pt (pw_and (pt_cmpR op_eq (pe_ix ix_str (pv 0) pe_int (fun _ _ => rfl)) pe_str (nomark _)) (pw_and1 (pt_cmpR op_gt (pe_callB call_len_str rfl T.n_len (by decide +kernel) (pa_cons (pv 0) pa_nil)) pe_int (nomark _))))) pe_non (pe_callTy call_int_str rfl T.n_int (by decide +kernel) (pa_cons (pv 0) pa_nil)))))), ?_⟩
  have hz : (S l).length ≤ sizeLine := by rw [S_len, sizeLine_eq]; omega
  have sl : ((S l).length : Int) = (l.length : Int) := by rw [S_len]
  have no1 : ¬ (1 ≤ l.length ∧ l.length ≤ 420) → Q .non H := fun h => by
    have := hq H (Evl.Ex.refl H)
    rwa [intOf_no1 h] at this
  refine ⟨_, rfl, _, rfl, hz, _, _, rfl, rfl, _, rfl, iteB (fun c1 => ⟨_, _, rfl, rfl, _, rfl, ?_⟩) (fun c1 => ⟨_, rfl, ?_⟩)⟩
  · rw [sl] at c1 ⊢
    have l1 : 1 ≤ l.length := by have : (1 : Int) ≤ (l.length : Int) := of_decide_eq_true c1; omega
    refine iteB (fun c2 => ?_) (fun c2 => ?_)
    · have l2 : ¬ l.length ≤ 420 := fun h => by
        have : decide ((l.length : Int) ≤ 420) = true := decide_eq_true (by omega)
        rw [this] at c2
        cases c2
      exact iteT (no1 fun h => l2 h.2)
    · have l2 : l.length ≤ 420 := by
        have : decide ((l.length : Int) ≤ 420) = true := by simpa using c2
        have := of_decide_eq_true this
        omega
      refine ⟨_, rfl, S l, rfl, fun LD hLD => lcf_it (G := fun _ => True) (walk_str (z := S l)) (fun i => .bl (isDig (l.getD i 0))) (fun _ => true) (by show l.toArray.size ≤ 16000000; rw [List.size_toArray]; exact hl) hLD (fun _ _ => trivial) ?_ ?_⟩
      · rintro i Hc x Hd hi ec ⟨rfl, c, hc, rfl⟩
        refine ⟨Evl.Ex.refl _, fun R hR => yes_in (hR _ (Evl.Ex.refl _)), fun _ H4 R e4 hR => ?_⟩
        have hc' : l[i]? = some c := by
          have : l.toArray[i]? = some c := hc
          simpa using this
        refine ⟨_, rfl, c, _, rfl, rfl, ?_⟩
        have e1 : decide (c ∈ (Str.ofString "0123456789").cps.toList) = isDig c := dig_mem c
        rw [e1]
        have e2 : l.getD i 0 = c := by rw [List.getD_eq_getElem?_getD, hc']; rfl
        have := hR H4 (Evl.Ex.refl _)
        rwa [e2] at this
      · intro H3 h3 e3
        have eb : fmV (fun i => V.bl (isDig (l.getD i 0))) (fun _ => true) (S l).cps.size = (l.map isDig).map V.bl := by
          rw [fmV_all, List.map_map]
          show (List.range l.toArray.size).map _ = _
          rw [List.size_toArray]
          refine List.ext_getElem? fun i => ?_
          rw [List.getElem?_map, List.getElem?_map]
          by_cases hi : i < l.length
          · rw [List.getElem?_range hi, List.getElem?_eq_getElem hi]
            simp [List.getD_eq_getElem?_getD, hi]
          · rw [List.getElem?_eq_none (by rw [List.length_range]; omega), List.getElem?_eq_none (by omega)]
            rfl
        rw [eb] at h3
        refine ⟨LD, _, rfl, SqL.of h3, _, rfl, ?_⟩
        have ea : (l.map isDig).all id = l.all isDig := by rw [List.all_map]; rfl
        rw [ea]
        have q3 := hq H3 e3
        refine iteB (fun c3 => ?_) (fun c3 => ?_)
        · rw [intOf_no2 (by simpa using c3)] at q3
          exact q3
        · have c3' : l.all isDig = true := by simpa using c3
          obtain ⟨c, r, rfl⟩ : ∃ c r, l = c :: r := by
            cases l with
            | nil => simp at l1
            | cons c r => exact ⟨c, r, rfl⟩
          refine ⟨_, rfl, S (c :: r), 0, c, rfl, rfl, hz, atI_head c r, rfl, _, rfl, iteB (fun c4 => ?_) (fun c4 => ?_)⟩
          · have h48 : c = 48 := by
              have := of_decide_eq_true c4
              have := V.str.inj this
              have : (#[c] : Array Nat) = #[48] := congrArg Str.cps this
              simpa using this
            refine ⟨_, rfl, _, rfl, hz, _, _, rfl, rfl, _, rfl, iteB (fun c5 => ?_) (fun c5 => ?_)⟩
            · rw [sl] at c5
              have : 1 < (c :: r).length := by have : (1 : Int) < ((c :: r).length : Int) := of_decide_eq_true c5; omega
              rw [intOf_no3 (by rw [h48]; rfl) this] at q3
              exact q3
            · rw [sl] at c5
              have h5 : ¬ 1 < (c :: r).length := fun h => by
                have : decide ((1 : Int) < ((c :: r).length : Int)) = true := decide_eq_true (by omega)
                rw [this] at c5
                cases c5
              obtain ⟨k1, k2⟩ := intOf_is ⟨l1, l2⟩ c3' fun z => h5 z.2
              rw [k2] at q3
              exact ⟨_, rfl, _, _, rfl, int_S c3' (by simp) (by omega), by rw [S_len]; omega, q3⟩
          · have h48 : (c :: r).head? ≠ some 48 := fun z => by
              cases z
              exact absurd rfl (of_decide_eq_false c4)
            obtain ⟨k1, k2⟩ := intOf_is ⟨l1, l2⟩ c3' fun z => h48 z.1
            rw [k2] at q3
            exact ⟨_, rfl, _, _, rfl, int_S c3' (by simp) (by omega), by rw [S_len]; omega, q3⟩
  · rw [sl] at c1
    refine iteT (no1 fun h => ?_)
    have : decide ((1 : Int) ≤ (l.length : Int)) = true := decide_eq_true (by omega)
    rw [this] at c1
    cases c1
theorem ok_integer_of (T : Txt P K mg base D) : CallG P w K mg base 1 D.integer_of [] spIntOf := by
  obtain ⟨fd, F, B⟩ := fb_integer_of (w := w) (base := base) T
  exact B.pos sp1_len (F.binds (ps := ["word"]) fun _ _ _ _ _ _ us hl => match us, hl with | [_], _ => rfl)
abbrev N__law_begin : List Str := ["script"]
theorem sc__law_begin : FnScope N__law_begin ["script"] (defScope s__law_begin) := ⟨rfl, rfl, rfl, by decide +kernel, rfl, by decide +kernel, by decide +kernel⟩
theorem fb__law_begin (T : Txt P K mg base D) : ∃ fd, Fun K "_law_begin" "_law_begin" s__law_begin D._law_begin fd ∧ FnB P w K mg base 1 D._law_begin fd ["script"] (spBegin K) := by
  obtain ⟨fd, F⟩ := T.f__law_begin
  refine ⟨fd, F, Fun_okB (k := 0) F sc__law_begin fun cdv A outer s H vs Q E hr hg h => ?_⟩
  have nd := sc__law_begin.nd
  obtain ⟨x, rfl, a, ns, rfl, hs, hl, q⟩ := h
  refine ⟨_, (pss_one (ps_ret (pe_disp (pps_cons pe_str (pe_op op_catL (pv 0) (pe_lst (pa_cons pe_int pa_nil))) (pps_cons pe_str pe_int (pps_cons pe_str pe_int (pps_cons pe_str pe_int pps_nil)))) (by rfl) (by rfl) (fun z => by cases z) (by decide)))), ?_⟩
  refine fun p hp => ⟨_, rfl, by rw [sizeLine_eq]; show 1 ≤ 16777216; decide, fun b hb => ⟨a, b, ns.map V.int, [.int 0], rfl, rfl, (Car.ex ((Evl.Ex.new hp).trans (Evl.Ex.new hb))).l hs, SqL.of upd_same, by rw [sizeLine_eq, List.length_map]; show ns.length + 1 ≤ 16777216; omega, fun c hc => ?_⟩⟩
  have bp : p ≠ b := ne_of_none upd_same hb
  have cb : b ≠ c := ne_of_none upd_same hc
  have cp : p ≠ c := fun z => by rw [← z, upd_ne bp, upd_same] at hc; cases hc
  refine ⟨by rw [upd_ne cp, upd_ne bp, upd_same], drawD c 0 0 0, rfl, by show 4 ≤ 15; decide, ?_⟩
  have em : mergeK [] (drawD c 0 0 0) = drawD c 0 0 0 := by kernel_rfl
  rw [em]
  refine q p _ hp (fun x o e => ?_) ⟨c, ns ++ [0], 0, 0, 0, upd_same, .inl (.inl ?_), by simp, by rw [List.length_append]; show ns.length + 1 ≤ 1000; omega, by decide, by decide, by decide, by decide⟩
  · have xp := ne_of_none e hp
    have e1 : upd H p (.dK []) x = some o := by rw [upd_ne xp, e]
    have xb := ne_of_none e1 hb
    have e2 : upd (upd H p (.dK [])) b (.lst [.int 0]) x = some o := by rw [upd_ne xb, e1]
    have xc := ne_of_none e2 hc
    rw [upd_ne xp, upd_ne xc, e2]
  · rw [upd_ne (Ne.symm cp), upd_same, List.map_append]
    rfl
theorem ok__law_begin (T : Txt P K mg base D) : CallG P w K mg base 1 D._law_begin [] (spBegin K) := by
  obtain ⟨fd, F, B⟩ := fb__law_begin (w := w) (base := base) T
  exact B.pos sp1_len (F.binds (ps := ["script"]) fun _ _ _ _ _ _ us hl => match us, hl with | [_], _ => rfl)
abbrev N__law_mixed : List Str := ["cell", "k", "mixed"]
theorem sc__law_mixed : FnScope N__law_mixed ["cell", "k"] (defScope s__law_mixed) := ⟨rfl, rfl, rfl, by decide +kernel, rfl, by decide +kernel, by decide +kernel⟩
theorem fb__law_mixed (T : Txt P K mg base D) : ∃ fd, Fun K "_law_mixed" "_law_mixed" s__law_mixed D._law_mixed fd ∧ FnB P w K mg base 1 D._law_mixed fd ["cell", "k"] spMixed := by
  obtain ⟨fd, F⟩ := T.f__law_mixed
  refine ⟨fd, F, Fun_okB (k := 0) F sc__law_mixed fun cdv A outer s H vs Q E hr hg h => ?_⟩
  have nd := sc__law_mixed.nd
  obtain ⟨x, y, rfl, c, k, rfl, rfl, h0, h1, q⟩ := h
  refine ⟨_, (pss_cons (ps_set (i := 2) nd rfl (.inl rfl) (pe_op op_mod (pe_op op_add (pe_op op_add (pe_op op_add (pe_op op_mod (pv 0) pe_int) (pe_op op_mulW (pe_op op_mulW pe_int (pv 1)) (pv 1))) (pe_op op_mulW pe_int (pv 1))) pe_int) pe_int))
        (pss_cons (ps_set (i := 2) nd rfl (.inl rfl) (pe_op op_mod (pe_op op_mulW (pe_op op_mod (pe_op op_mulW (pv 2) (pv 2)) pe_int) (pv 2)) pe_int))
        (pss_one (ps_ret (pe_op op_fdivW (pe_op op_mod (pe_op op_mulW (pv 2) (pe_op op_add pe_int (pe_op op_mulW pe_int (pe_op op_mod (pv 1) pe_int)))) pe_int) pe_int))))), ?_⟩
  have bk : Bd 60 k := by unfold Bd; omega
  have md : ∀ (n : Nat) (a j : Int), 0 < j → j < 2 ^ n → Bd n (a % j) := fun n a j h0 h1 => by
    unfold Bd
    have z0 := Int.emod_nonneg a (show j ≠ 0 by omega)
    have z1 := Int.emod_lt_of_pos a h0
    have : ((2 ^ n : Nat) : Int) = 2 ^ n := by simp
    omega
  have b1 : Bd 13 7919 := by unfold Bd; decide
  have b2 : Bd 5 31 := by unfold Bd; decide
  have b3 : Bd 2 2 := by unfold Bd; decide
  refine ⟨_, rfl, _, _, rfl, rfl, show (0 : Int) < 1000000007 by decide, _, rfl, _, _, rfl, rfl, b1.mulW bk, _, rfl, _, _, rfl, rfl, (b1.mul bk).mulW bk, _, _, rfl, rfl, _, rfl, _, _, rfl, rfl, b2.mulW bk, _, _, rfl, rfl, _, _, rfl, rfl, _, _, rfl, rfl, show (0 : Int) < 2147483647 by decide, ?_⟩
  have bm := md 31 (c % 1000000007 + 7919 * k * k + 31 * k + 7) 2147483647 (by decide) (by decide)
  refine ⟨_, rfl, _, rfl, _, _, rfl, rfl, bm.mulW bm, _, _, rfl, rfl, show (0 : Int) < 2147483647 by decide, _, rfl, _, _, rfl, rfl, (md 31 _ _ (by decide) (by decide)).mulW bm, _, _, rfl, rfl, show (0 : Int) < 2147483629 by decide, ?_⟩
  refine ⟨_, rfl, _, rfl, _, _, rfl, rfl, show (0 : Int) < 1000 by decide, _, _, rfl, rfl, b3.mulW (md 10 k 1000 (by decide) (by decide)), _, _, rfl, rfl, _, _, rfl, rfl, (md 31 _ _ (by decide) (by decide)).mulW (n := 20) ?_, _, _, rfl, rfl, show (0 : Int) < 2147483647 by decide, _, _, rfl, rfl, ⟨by decide, by decide⟩, q _⟩
  exact Bd.add (m := 19) (by unfold Bd; decide) ((b3.mul (md 10 k 1000 (by decide) (by decide))).mono (by decide))
theorem ok__law_mixed (T : Txt P K mg base D) : CallG P w K mg base 1 D._law_mixed [] spMixed := by
  obtain ⟨fd, F, B⟩ := fb__law_mixed (w := w) (base := base) T
  exact B.pos sp2_len (F.binds (ps := ["cell", "k"]) fun _ _ _ _ _ _ us hl => match us, hl with | [_, _], _ => rfl)
abbrev N__law_least : List Str := ["above", "below", "one", "two"]
theorem sc__law_least : FnScope N__law_least ["above", "below"] (defScope s__law_least) := ⟨rfl, rfl, rfl, by decide +kernel, rfl, by decide +kernel, by decide +kernel⟩
def spLeast : Sp := sp2 fun x y H Q _ => ∃ a b, x = .int a ∧ y = .int b ∧ 1 ≤ b ∧ Bd 1500 b ∧ RNum H Q (red a b)
theorem fb__law_least (T : Txt P K mg base D) : ∃ fd, Fun K "_law_least" "_law_least" s__law_least D._law_least fd ∧ FnB P w K mg base 1 D._law_least fd ["above", "below"] spLeast := by
  obtain ⟨fd, F⟩ := T.f__law_least
  refine ⟨fd, F, Fun_okB (k := 0) F sc__law_least fun cdv A outer s H vs Q E hr hg h => ?_⟩
  have nd := sc__law_least.nd
  obtain ⟨x, y, rfl, a, b, rfl, rfl, b1, bb, q⟩ := h
  refine ⟨_, (pss_cons (ps_par rfl nd (i := 2) (j := 3) rfl rfl (by decide) rfl rfl (pa_cons (pe_callB call_abs rfl T.n_abs (by decide +kernel) (pa_cons (pv 0) pa_nil)) (pa_cons (pv 1) pa_nil)) (by rfl))
        (pss_cons (ps_while (passes_of rfl) (pt_cmpR op_gt (pv 3) pe_int (nomark _)) (pss_one (ps_par rfl nd (i := 2) (j := 3) rfl rfl (by decide) rfl rfl (pa_cons (pv 3) (pa_cons (pe_op op_mod (pv 2) (pv 3)) pa_nil)) (by rfl))))
        (pss_one (ps_ret (pe_tup (pa_cons (pe_op op_fdivW (pv 0) (pv 2)) (pa_cons (pe_op op_fdivW (pv 1) (pv 2)) pa_nil))))))), ?_⟩
  refine ⟨_, rfl, _, rfl, _, rfl, _, _, rfl, ?_⟩
  have eb : ((b.natAbs : Nat) : Int) = b := by omega
  have ea : (if a < 0 then -a else a) = ((a.natAbs : Nat) : Int) := by split <;> omega
  rw [ea, ← eb]
  refine while_by (fun σ H' => ∃ x y : Nat, σ = [some (.int a), some (.int ((b.natAbs : Nat) : Int)), some (.int x), some (.int y)] ∧ H' = H ∧ Nat.gcd x y = Nat.gcd a.natAbs b.natAbs)
    (fun σ _ => match σ with | [_, _, _, some (.int y)] => y.toNat | _ => 0) ⟨a.natAbs, b.natAbs, rfl, rfl, rfl⟩ ?_ ?_
  · rintro σ H' ⟨x, y, rfl, rfl, hg'⟩
    refine ⟨_, rfl, _, _, rfl, rfl, _, rfl, iteB (fun c => ?_) (fun c => ?_)⟩
    · have y0 : 0 < y := by have : (0 : Int) < (y : Int) := of_decide_eq_true c; omega
      refine ⟨_, rfl, _, rfl, _, rfl, _, _, rfl, rfl, by omega, _, _, rfl, ⟨y, x % y, by simp, rfl, by rw [← hg', Nat.gcd_comm x y, Nat.gcd_rec y x, Nat.gcd_comm]⟩, ?_⟩
      have := Nat.mod_lt x y0
      show ((x : Int) % (y : Int)).toNat < (y : Int).toNat
      omega
    · have y0 : y = 0 := by
        have : ¬ (0 : Int) < (y : Int) := of_decide_eq_false c
        omega
      subst y0
      rw [Nat.gcd_zero_right] at hg'
      subst hg'
      have gp : 0 < Nat.gcd a.natAbs b.natAbs := Nat.gcd_pos_of_pos_right _ (by omega)
      have gl : Nat.gcd a.natAbs b.natAbs ≤ b.natAbs := Nat.gcd_le_right _ (by omega)
      have gb : Bd 1500 ((Nat.gcd a.natAbs b.natAbs : Nat) : Int) := by
        unfold Bd at bb ⊢
        rw [Int.natAbs_natCast]
        omega
      have cd : ∀ i, CDivW i ((Nat.gcd a.natAbs b.natAbs : Nat) : Int) := fun i => ⟨by omega, Nat.lt_trans (gb.log (by decide)) (by decide)⟩
      refine ⟨_, rfl, _, rfl, _, _, rfl, rfl, cd _, _, rfl, _, rfl, _, _, rfl, rfl, cd _, sz5 (by simp), fun t ht => ?_⟩
      have ed : dv a b = ((Nat.gcd a.natAbs b.natAbs : Nat) : Int) := by
        unfold dv
        rw [if_neg (by omega)]
        rfl
      refine q t _ ht (Evl.Ex.new ht) ?_
      rw [upd_same]
      unfold red
      rw [ed, Int.fdiv_eq_ediv_of_nonneg _ (by omega), Int.fdiv_eq_ediv_of_nonneg _ (by omega), eb]
  · rintro σ H' Q1 Q2 hq ⟨v, e, i, j, h1, h2, k, e3, z⟩
    exact ⟨v, e, i, j, h1, h2, k, e3, hq _ _ z⟩
theorem ok__law_least (T : Txt P K mg base D) : CallG P w K mg base 1 D._law_least [] spLeast := by
  obtain ⟨fd, F, B⟩ := fb__law_least (w := w) (base := base) T
  exact B.pos sp2_len (F.binds (ps := ["above", "below"]) fun _ _ _ _ _ _ us hl => match us, hl with | [_, _], _ => rfl)
abbrev N__law_written : List Str := ["one"]
theorem sc__law_written : FnScope N__law_written ["one"] (defScope s__law_written) := ⟨rfl, rfl, rfl, by decide +kernel, rfl, by decide +kernel, by decide +kernel⟩
def spWritten (K : Frag) : Sp := sp1 fun x H Q _ => ∃ p q : Int, NumAt K H x p q ∧ p.natAbs.log2 < 1920 ∧ q.natAbs.log2 < 1920 ∧ Q (.str (ntext p q)) H
theorem fb__law_written (T : Txt P K mg base D) : ∃ fd, Fun K "_law_written" "_law_written" s__law_written D._law_written fd ∧ FnB P w K mg base 1 D._law_written fd ["one"] (spWritten K) := by
  obtain ⟨fd, F⟩ := T.f__law_written
  refine ⟨fd, F, Fun_okB (k := 0) F sc__law_written fun cdv A outer s H vs Q E hr hg h => ?_⟩
  have nd := sc__law_written.nd
  obtain ⟨x, rfl, p, q, hx, l1, l2, hq⟩ := h
  refine ⟨_, (pss_one (ps_ret (pe_ifExp (pt_cmpR op_eq (pe_ix ix_tup (pv 0) pe_int (fun _ _ => rfl)) pe_int (nomark _)) (pe_callTy call_str_int rfl T.n_str (by decide +kernel) (pa_cons (pe_ix ix_tup (pv 0) pe_int (fun _ _ => rfl)) pa_nil)) (pe_op op_add_str (pe_op op_add_str (pe_callTy call_str_int rfl T.n_str (by decide +kernel) (pa_cons (pe_ix ix_tup (pv 0) pe_int (fun _ _ => rfl)) pa_nil)) pe_str) (pe_callTy call_str_int rfl T.n_str (by decide +kernel) (pa_cons (pe_ix ix_tup (pv 0) pe_int (fun _ _ => rfl)) pa_nil)))))), ?_⟩
  obtain ⟨a, rfl, ha⟩ := hx
  refine ⟨_, rfl, _, _, _, _, rfl, rfl, ha, rfl, rfl, _, rfl, iteB (fun c => ?_) (fun c => ?_)⟩
  · have h1 : q = 1 := V.int.inj (of_decide_eq_true c)
    have et : ntext p q = Str.ofString (toString p) := if_pos h1
    rw [et] at hq
    exact ⟨_, rfl, _, _, _, _, rfl, rfl, ha, rfl, _, rfl, l1, hq⟩
  · have h1 : ¬ q = 1 := fun z => of_decide_eq_false c (by rw [z])
    have et : ntext p q = Str.ofString (toString p) ++ Str.ofString "/" ++ Str.ofString (toString q) := by
      refine (if_neg h1).trans (TL.ext_tl ?_)
      simp only [TL.tl_append]
      rfl
    have zl := ntext_len (a := p) (b := q) l1 l2
    rw [et] at hq zl
    have e1 : (Str.ofString (toString p) ++ Str.ofString "/").length ≤ 4000 := by
      have := Str.length_append (Str.ofString (toString p) ++ Str.ofString "/") (Str.ofString (toString q))
      omega
    have e2 := Str.length_append (Str.ofString (toString p)) (Str.ofString "/")
    have e3 := Str.length_append (Str.ofString (toString p) ++ Str.ofString "/") (Str.ofString (toString q))
    exact ⟨_, rfl, _, _, _, _, rfl, rfl, ha, rfl, _, rfl, l1, _, _, rfl, rfl, by rw [sizeLine_eq]; omega, _, rfl, _, _, _, _, rfl, rfl, ha, rfl, _, rfl, l2, _, _, rfl, rfl, by rw [sizeLine_eq]; omega, hq⟩
theorem ok__law_written (T : Txt P K mg base D) : CallG P w K mg base 1 D._law_written [] (spWritten K) := by
  obtain ⟨fd, F, B⟩ := fb__law_written (w := w) (base := base) T
  exact B.pos sp1_len (F.binds (ps := ["one"]) fun _ _ _ _ _ _ us hl => match us, hl with | [_], _ => rfl)
abbrev N__law_is_digits : List Str := ["part", "sign"]
theorem sc__law_is_digits : FnScope N__law_is_digits ["part"] (defScope s__law_is_digits) := ⟨rfl, rfl, rfl, by decide +kernel, rfl, by decide +kernel, by decide +kernel⟩
def spDigits : Sp := sp1 fun x H Q _ => ∃ l : List Nat, x = .str (S l) ∧ l.length ≤ 16000000 ∧ okL l ∧ ∀ H', Ex H H' → Q (.bl (canon l)) H'
theorem fb__law_is_digits (T : Txt P K mg base D) : ∃ fd, Fun K "_law_is_digits" "_law_is_digits" s__law_is_digits D._law_is_digits fd ∧ FnB P w K mg base 1 D._law_is_digits fd ["part"] spDigits := by
  obtain ⟨fd, F⟩ := T.f__law_is_digits
  refine ⟨fd, F, Fun_okB (k := 0) F sc__law_is_digits fun cdv A outer s H vs Q E hr hg h => ?_⟩
  have nd := sc__law_is_digits.nd
  obtain ⟨x, rfl, l, rfl, hl, hk, hq⟩ := h
  refine ⟨_, (pss_cons (ps_if (PW.pt (pw_or (pt_not (pt_chain op_le op_le pe_int (pe_callB call_len_str rfl T.n_len (by decide +kernel) (pa_cons (pv 0) pa_nil)) pe_int)) (pw_or1 (pt_cmpR (op_neD hr.units) (pe_lc (own := [("sign", 1)]) (g := gName 1) (by rfl) nd (pi_str (pv 0)) (blkOk_by (own := [("sign", 1)]) (N := N__law_is_digits) (sc := defScope s__law_is_digits) (by decide +kernel)) (fun _ _ _ _ _ => pg_name (i := 1) nd rfl (Or.inl rfl)) (fun _ _ _ _ _ => (pts_one (pt_cmpR op_notIn_sign (pv 1) pe_str rfl))) (fun _ _ _ _ _ => (pv 1))) (pe_lst pa_nil) (nomark _))))) (pss_one (ps_ret pe_bl)) pss_nil)
        (pss_one (ps_ret (pe_or (pe_cmpR op_eq (pv 0) pe_str (nomark _)) (pe_one (pe_cmpR op_ne (pe_ix ix_str (pv 0) pe_int (fun _ _ => rfl)) pe_str (nomark _))))))), ?_⟩
  have hz : (S l).length ≤ sizeLine := by rw [S_len, sizeLine_eq]; omega
  have sl : ((S l).length : Int) = (l.length : Int) := by rw [S_len]
  have no1 : ¬ (1 ≤ l.length ∧ l.length ≤ 420) → Q (.bl false) H := fun h => by
    have := hq H (Evl.Ex.refl H)
    rwa [canon_len h] at this
  refine ⟨_, rfl, _, rfl, hz, _, _, rfl, rfl, _, rfl, iteB (fun c1 => ⟨_, _, rfl, rfl, _, rfl, ?_⟩) (fun c1 => ⟨_, rfl, ?_⟩)⟩
  · rw [sl] at c1 ⊢
    have l1 : 1 ≤ l.length := by have : (1 : Int) ≤ (l.length : Int) := of_decide_eq_true c1; omega
    refine iteB (fun c2 => ?_) (fun c2 => ?_)
    · have l2 : ¬ l.length ≤ 420 := fun h => by
        have : decide ((l.length : Int) ≤ 420) = true := decide_eq_true (by omega)
        rw [this] at c2
        cases c2
      exact iteT (no1 fun h => l2 h.2)
    · have l2 : l.length ≤ 420 := by
        have : decide ((l.length : Int) ≤ 420) = true := by simpa using c2
        have := of_decide_eq_true this
        omega
      refine ⟨_, rfl, S l, rfl, fun LD hLD => lcf_it (G := fun _ => True) (walk_str (z := S l)) (fun i => .str ⟨#[l.getD i 0]⟩) (fun i => !isDig (l.getD i 0)) (by show l.toArray.size ≤ 16000000; rw [List.size_toArray]; exact hl) hLD (fun _ _ => trivial) ?_ ?_⟩
      · rintro i Hc x Hd hi ec ⟨rfl, c, hc, rfl⟩
        have hc' : l[i]? = some c := by
          have : l.toArray[i]? = some c := hc
          simpa using this
        have e2 : l.getD i 0 = c := by rw [List.getD_eq_getElem?_getD, hc']; rfl
        rw [e2]
        refine ⟨Evl.Ex.refl _, fun R hR => ⟨_, rfl, c, _, rfl, rfl, _, rfl, ?_⟩, fun _ H4 R e4 hR => ⟨_, rfl, hR H4 (Evl.Ex.refl _)⟩⟩
        have e1 : decide (c ∈ (Str.ofString "0123456789").cps.toList) = isDig c := dig_mem c
        rw [e1]
        exact hR _ (Evl.Ex.refl _)
      · intro H3 h3 e3
        have hsz : (S l).cps.size = l.length := by show l.toArray.size = _; rw [List.size_toArray]
        rw [hsz] at h3
        have nil_iff : fmV (fun i => V.str ⟨#[l.getD i 0]⟩) (fun i => !isDig (l.getD i 0)) l.length = [] ↔ l.all isDig = true := by
          constructor
          · intro h
            refine List.all_eq_true.mpr fun c hc => ?_
            obtain ⟨i, hi, e⟩ := List.mem_iff_getElem.mp hc
            by_cases hd : isDig c = true
            · exact hd
            · refine absurd h (fmV_some (i := i) hi ?_)
              have : l.getD i 0 = c := by rw [List.getD_eq_getElem?_getD, List.getElem?_eq_getElem hi, e]; rfl
              show (!isDig (l.getD i 0)) = true
              rw [this]
              simpa using hd
          · intro h
            refine fmV_none fun i hi => ?_
            have : l.getD i 0 = l[i] := by rw [List.getD_eq_getElem?_getD, List.getElem?_eq_getElem hi]; rfl
            show (!isDig (l.getD i 0)) = false
            rw [this, List.all_eq_true.mp h _ (List.getElem_mem hi)]
            rfl
        obtain ⟨ds, hds, hnil, hok⟩ := strs_data (K := K) (H := H3) (xs := fmV (fun i => V.str ⟨#[l.getD i 0]⟩) (fun i => !isDig (l.getD i 0)) l.length) (fun x hx => by
          obtain ⟨i, hi, _, rfl⟩ := fmV_mem hx
          have : l.getD i 0 = l[i] := by rw [List.getD_eq_getElem?_getD, List.getElem?_eq_getElem hi]; rfl
          refine ⟨_, rfl, ?_⟩
          show PyData.strOk (S [l.getD i 0]) = true
          rw [this]
          exact okL.str fun c hc => by
            rw [List.mem_singleton.mp hc]
            exact hk _ (List.getElem_mem hi))
        refine ⟨sz5 (by simp), fun p hp => ⟨_, _, Dp.new (K := K) _ hp (.lst (SqL.of h3) hds), Dp.lstN (K := K) hp .nil, shaped_list hok, shaped_nil, _, rfl, ?_⟩⟩
        rw [eqv_nil]
        have q3 := hq _ (e3.trans (Evl.Ex.new (o := .lst []) hp))
        refine iteB (fun c3 => ?_) (fun c3 => ?_)
        · have hd : ¬ ds = [] := by simpa using c3
          rw [canon_all (by
            cases e : l.all isDig with
            | false => rfl
            | true => exact absurd (hnil.mpr (nil_iff.mpr e)) hd)] at q3
          exact q3
        · have hd : ds = [] := by simpa using c3
          have c3' := nil_iff.mp (hnil.mp hd)
          rw [canon_red ⟨l1, l2⟩ c3'] at q3
          obtain ⟨c, r, rfl⟩ : ∃ c r, l = c :: r := by
            cases l with
            | nil => simp at l1
            | cons c r => exact ⟨c, r, rfl⟩
          refine ⟨_, rfl, rfl, _, rfl, iteB (fun c4 => ?_) (fun c4 => ?_)⟩
          · have e4 : c :: r = [48] := S_inj ((V.str.inj (of_decide_eq_true c4)).trans (by decide : Str.ofString "0" = S [48]))
            cases e4
            exact q3
          · refine ⟨_, rfl, S (c :: r), 0, c, rfl, rfl, hz, atI_head c r, rfl, ?_⟩
            have e5 : (!decide (V.str (⟨#[c]⟩ : Str) = V.str (Str.ofString "0"))) = !(decide ((c :: r).head? = some 48) && decide (1 < (c :: r).length)) := by
              by_cases h48 : c = 48
              · subst h48
                have hr : r ≠ [] := fun z => by
                  subst z
                  exact of_decide_eq_false c4 rfl
                have h6 : 1 < (48 :: r).length := by
                  rw [List.length_cons]
                  have := List.length_pos_iff.mpr hr
                  omega
                rw [decide_eq_true (show V.str (⟨#[48]⟩ : Str) = V.str (Str.ofString "0") from rfl), decide_eq_true (show (48 :: r).head? = some 48 from rfl), decide_eq_true h6]
                rfl
              · have h7 : ¬ V.str (⟨#[c]⟩ : Str) = V.str (Str.ofString "0") := fun z => h48 (by
                  have : (#[c] : Array Nat) = #[48] := congrArg Str.cps (V.str.inj z)
                  simpa using this)
                rw [decide_eq_false h7, decide_eq_false (show ¬ (c :: r).head? = some 48 from fun z => h48 (Option.some.inj z))]
                rfl
            show Q (.bl (!decide (V.str (⟨#[c]⟩ : Str) = V.str (Str.ofString "0")))) _
            rw [e5]
            exact q3
  · rw [sl] at c1
    refine iteT (no1 fun h => ?_)
    have : decide ((1 : Int) ≤ (l.length : Int)) = true := decide_eq_true (by omega)
    rw [this] at c1
    cases c1
theorem ok__law_is_digits (T : Txt P K mg base D) : CallG P w K mg base 1 D._law_is_digits [] spDigits := by
  obtain ⟨fd, F, B⟩ := fb__law_is_digits (w := w) (base := base) T
  exact B.pos sp1_len (F.binds (ps := ["part"]) fun _ _ _ _ _ _ us hl => match us, hl with | [_], _ => rfl)
abbrev N__law_marks : List Str := ["error"]
theorem sc__law_marks : FnScope N__law_marks ["error"] (defScope s__law_marks) := ⟨rfl, rfl, rfl, by decide +kernel, rfl, by decide +kernel, by decide +kernel⟩
def spMarks (K : Frag) (C : Addr) : Sp := sp1 fun x H Q _ => ∃ a dd fr, x = .ref a ∧ H a = some (xV a (.ref C) (some dd) fr) ∧ H dd = some (.xd [("line", .int 0)]) ∧ ∀ p, H p = none → Q (.ref p) (upd H p (.tup [.str "text", .int 0]))
theorem fb__law_marks (T : Txt P K mg base D) : ∃ fd, Fun K "_law_marks" "_law_marks" s__law_marks D._law_marks fd ∧ FnB P w K mg base 1 D._law_marks fd ["error"] (spMarks K D.InvalidText) := by
  obtain ⟨fd, F⟩ := T.f__law_marks
  refine ⟨fd, F, Fun_okB (k := 0) F sc__law_marks fun cdv A outer s H vs Q E hr hg h => ?_⟩
  have nd := sc__law_marks.nd
  obtain ⟨x, rfl, a, dd, fr, rfl, ha, hd, hq⟩ := h
  refine ⟨_, (pss_one (ps_ret (pe_ifExp (pt_val (pe_callB call_isX rfl T.n_isinstance (by decide +kernel) (pa_cons (pv 0) (pa_cons (pe_glob (v := .ref D.InvalidText) rfl T.g_InvalidText rfl) pa_nil)))) (pe_tup (pa_cons pe_str (pa_cons (pe_xat (pv 0)) pa_nil))) (pe_tup (pa_cons pe_str (pa_cons pe_non pa_nil)))))), ?_⟩
  have lk : List.lookup ("line" : Str) [(("line" : Str), V.int 0)] = some (V.int 0) := by kernel_rfl
  refine ⟨_, rfl, a, _, dd, _, _, _, _, _, rfl, .own _, ha, hd, T.t_InvalidText, T.i_InvalidText, _, rfl, iteT ⟨_, rfl, a, _, dd, _, _, _, rfl, ha, hd, T.t_InvalidText, T.h_InvalidText, lk, sz5 (by show 2 ≤ 1000; decide), hq⟩⟩
theorem ok__law_marks (T : Txt P K mg base D) : CallG P w K mg base 1 D._law_marks [] (spMarks K D.InvalidText) := by
  obtain ⟨fd, F, B⟩ := fb__law_marks (w := w) (base := base) T
  exact B.pos sp1_len (F.binds (ps := ["error"]) fun _ _ _ _ _ _ us hl => match us, hl with | [_], _ => rfl)
abbrev N_is_number : List Str := ["thing", "above", "below"]
theorem sc_is_number : FnScope N_is_number ["thing"] (defScope s_is_number) := ⟨rfl, rfl, rfl, by decide +kernel, rfl, by decide +kernel, by decide +kernel⟩
theorem fb_is_number (T : Txt P K mg base D) : ∃ fd, Fun K "is_number" "is_number" s_is_number D.is_number fd ∧ FnB P w K mg base 2 D.is_number fd ["thing"] (spIsNum K) := by
  obtain ⟨fd, F⟩ := T.f_is_number
  refine ⟨fd, F, Fun_okB (k := 1) F sc_is_number fun cdv A outer s H vs Q E hr hg h => ?_⟩
  have nd := sc_is_number.nd
  obtain ⟨x, rfl, d, hd, q⟩ := h
  refine ⟨_, (pss_cons (ps_if (PW.pt (pw_or (pt_not (pt_val (pe_callB call_isD rfl T.n_isinstance (by decide +kernel) (pa_cons (pv 0) (pa_cons (pe_bltn (v := .ty "tuple") rfl T.n_tuple (by decide +kernel) rfl) pa_nil))))) (pw_or1 (pt_cmpR op_ne (pe_callB call_len rfl T.n_len (by decide +kernel) (pa_cons (pv 0) pa_nil)) pe_int (nomark _))))) (pss_one (ps_ret pe_bl)) pss_nil)
        (pss_cons (ps_asg (pv 0) (pg_tup rfl (pgs_cons (pg_name (i := 1) nd rfl (.inl rfl)) (pgs_cons (pg_name (i := 2) nd rfl (.inl rfl)) pgs_nil))))
        (pss_cons (ps_if (PW.pt (pw_or (pt_not (pt_val (pe_callG (ok_is_integer T) (hr.mono (by decide)) hg (takes_of rfl rfl rfl rfl) rfl T.g_is_integer T.k_is_integer (pa_cons (pv 1) pa_nil)))) (pw_or (pt_not (pt_val (pe_callG (ok_is_integer T) (hr.mono (by decide)) hg (takes_of rfl rfl rfl rfl) rfl T.g_is_integer T.k_is_integer (pa_cons (pv 2) pa_nil)))) (pw_or1 (pt_cmpR op_lt (pv 2) pe_int (nomark _)))))) (pss_one (ps_ret pe_bl)) pss_nil)
        (pss_one (ps_ret (pe_cmpR op_eq (pe_callG (ok_common_divisor T) (hr.mono (by decide)) hg (takes_of rfl rfl rfl rfl) rfl T.g_common_divisor T.k_common_divisor (pa_cons (pv 1) (pa_cons (pv 2) pa_nil))) pe_int (nomark _))))))), ?_⟩
  have q0 := q H (Evl.Ex.refl H)
  refine ⟨_, rfl, _, _, d, _, rfl, hd, kit_tuple d, _, rfl, ?_⟩
  cases hd with
  | non => exact iteT (iteT q0)
  | bl b => exact iteT (iteT q0)
  | int i => exact iteT (iteT q0)
  | str x => exact iteT (iteT q0)
  | lst _ _ => exact iteT (iteT q0)
  | @tup a xs ds ha hds =>
    have hl := DpAll.len hds
    refine iteF ⟨_, rfl, _, _, rfl, .inr ⟨_, ha, rfl⟩, rfl, _, rfl, ?_⟩
    refine iteB (fun c => ?_) (fun c => ?_)
    · have : isNumD (.tuple ds) = false := isNumD_tup (fun z => by rw [hl, z] at c; simp at c)
      rw [this] at q0
      exact q0
    · have h2 : xs.length = 2 := by
        have : V.int (xs.length : Int) = V.int 2 := by simpa using c
        have := V.int.inj this
        omega
      obtain ⟨u, v, du, dw, rfl, rfl, hu, hv⟩ := DpAll.two hds h2
      · refine ⟨_, rfl, _, _, rfl, ha, rfl, _, _, rfl, _, _, rfl, rfl, ?_⟩
        refine ⟨_, rfl, _, rfl, du, hu, _, rfl, ?_⟩
        refine iteB (fun c => ?_) (fun c => ?_)
        · rw [isNumD_1 (by simpa using c)] at q0
          exact iteT q0
        · obtain ⟨i, rfl⟩ := isIntD_inv (by simpa using c)
          refine ⟨_, rfl, _, rfl, dw, hv, _, rfl, ?_⟩
          refine iteB (fun c => ?_) (fun c => ?_)
          · rw [isNumD_2 (by simpa using c)] at q0
            exact iteT q0
          · obtain ⟨j, rfl⟩ := isIntD_inv (by simpa using c)
            cases hu
            cases hv
            refine ⟨_, rfl, _, _, rfl, rfl, _, rfl, ?_⟩
            refine iteB (fun c => ?_) (fun c => ?_)
            · have hj : j < 1 := of_decide_eq_true c
              have : isNumD (.tuple [.int i, .int j]) = false := decide_eq_false fun z => by have := z.1; omega
              rw [this] at q0
              exact q0
            · have hj : ¬ j < 1 := of_decide_eq_false c
              refine ⟨_, rfl, _, rfl, _, _, rfl, i, j, rfl, rfl, rfl, ?_⟩
              have : decide (V.int (Int.gcd i j : Nat) = V.int 1) = isNumD (.tuple [.int i, .int j]) := by
                unfold isNumD IsNum
                by_cases g : Int.gcd i j = 1
                · have e1 : V.int (Int.gcd i j : Nat) = V.int 1 := by rw [g]; rfl
                  rw [decide_eq_true e1]
                  exact (decide_eq_true (show 1 ≤ j ∧ Int.gcd i j = 1 from ⟨by omega, g⟩)).symm
                · have g' : ¬ V.int (Int.gcd i j : Nat) = V.int 1 := fun z => g (by have := V.int.inj z; omega)
                  simp [g, g']
              rw [this]
              exact q0
theorem ok_is_number (T : Txt P K mg base D) : CallG P w K mg base 2 D.is_number [] (spIsNum K) := by
  obtain ⟨fd, F, B⟩ := fb_is_number (w := w) (base := base) T
  exact B.pos sp1_len (F.binds (ps := ["thing"]) fun _ _ _ _ _ _ us hl => match us, hl with | [_], _ => rfl)
abbrev N__law_next : List Str := ["draw", "bound", "found", "cells", "cell"]
theorem sc__law_next : FnScope N__law_next ["draw", "bound"] (defScope s__law_next) := ⟨rfl, rfl, rfl, by decide +kernel, rfl, by decide +kernel, by decide +kernel⟩
theorem fb__law_next (T : Txt P K mg base D) : ∃ fd, Fun K "_law_next" "_law_next" s__law_next D._law_next fd ∧ FnB P w K mg base 2 D._law_next fd ["draw", "bound"] (spNext K) := by
  obtain ⟨fd, F⟩ := T.f__law_next
  refine ⟨fd, F, Fun_okB (k := 1) F sc__law_next fun cdv A outer s H vs Q E hr hg h => ?_⟩
  have nd := sc__law_next.nd
  obtain ⟨x, y, rfl, d, n, b, rfl, rfl, ⟨c, cells, at', l, u, hd, hc, hne, hlen, a0, a1, u0, u1⟩, hn, b0, b1, q⟩ := h
  refine ⟨_, (pss_cons (ps_if (pt_cmpR op_gt (pe_dget (hu_of hr) (pv 0) pe_str (fun _ _ => rfl)) pe_int (nomark _)) (pss_cons (ps_set (i := 2) nd rfl (.inl rfl) (pe_op op_mod (pe_dget (hu_of hr) (pv 0) pe_str (fun _ _ => rfl)) (pv 1)))
        (pss_cons (ps_dput (hu_of hr) (pv 0) pe_str (pe_op op_fdivW (pe_dget (hu_of hr) (pv 0) pe_str (fun _ _ => rfl)) (pv 1)) rfl)
        (pss_one (ps_ret (pv 2))))) pss_nil)
        (pss_cons (ps_set (i := 3) nd rfl (.inl rfl) (pe_dget (hu_of hr) (pv 0) pe_str (fun _ _ => rfl)))
        (pss_cons (ps_set (i := 4) nd rfl (.inl rfl) (pe_ix ix_list (pv 3) (pe_op op_mod (pe_dget (hu_of hr) (pv 0) pe_str (fun _ _ => rfl)) (pe_callB call_len rfl T.n_len (by decide +kernel) (pa_cons (pv 3) pa_nil))) (fun _ _ => rfl)))
        (pss_cons (ps_dput (hu_of hr) (pv 0) pe_str (pe_op op_add (pe_dget (hu_of hr) (pv 0) pe_str (fun _ _ => rfl)) pe_int) rfl)
        (pss_cons (ps_if (PW.pt (pw_and (pt_cmpR op_ge (pv 4) (pe_op op_pow pe_int pe_int) (nomark _)) (pw_and1 (pt_cmpR op_le (pe_dget (hu_of hr) (pv 0) pe_str (fun _ _ => rfl)) (pe_callB call_len rfl T.n_len (by decide +kernel) (pa_cons (pv 3) pa_nil)) (nomark _))))) (pss_cons (ps_dput (hu_of hr) (pv 0) pe_str (pe_op op_fdivW (pv 4) (pv 1)) rfl)
        (pss_one (ps_ret (pe_op op_mod (pv 4) (pv 1))))) pss_nil)
        (pss_cons (ps_dput (hu_of hr) (pv 0) pe_str (pe_op op_add (pe_dget (hu_of hr) (pv 0) pe_str (fun _ _ => rfl)) pe_int) rfl)
        (pss_one (ps_ret (pe_op op_mod (pe_callG (ok__law_mixed T) (hr.mono (by decide)) hg (takes_of rfl rfl rfl rfl) rfl T.g__law_mixed T.k__law_mixed (pa_cons (pe_callG (ok__law_mixed T) (hr.mono (by decide)) hg (takes_of rfl rfl rfl rfl) rfl T.g__law_mixed T.k__law_mixed (pa_cons (pv 4) (pa_cons (pe_dget (hu_of hr) (pv 0) pe_str (fun _ _ => rfl)) pa_nil))) (pa_cons (pe_dget (hu_of hr) (pv 0) pe_str (fun _ _ => rfl)) pa_nil))) (pv 1)))))))))), ?_⟩
  have hB : Bd 60 b := by unfold Bd; omega
  have hdv : ∀ i, CDivW i b := fun i => ⟨b0, Nat.lt_trans (hB.log (by decide)) (by decide)⟩
  have fin : ∀ (i l' a' u' : Int) (H' : Hp), Exb d H H' → 0 ≤ a' → a' ≤ (n + 1 : Nat) → 0 ≤ u' → u' ≤ (n + 1 : Nat) → H' d = some (.dK (drawD c a' l' u')) → Q (.int (i % b)) H' := fun i l' a' u' H' e h1 h2 h3 h4 h =>
    q _ (Int.emod_nonneg i (by omega)) (Int.emod_lt_of_pos i b0) H' ⟨c, cells, a', l', u', h, (Car.exb hd e).l hc, hne, hlen, h1, h2, h3, h4⟩ e
  have hnn : (n : Int) < 2 ^ 50 := by
    have : ((2 ^ 50 : Nat) : Int) = 2 ^ 50 := by simp
    omega
  refine ⟨_, rfl, d, _, rfl, dget_left hd, _, _, rfl, rfl, _, rfl, ?_⟩
  refine iteB (fun g => ?_) (fun g => ?_)
  · refine ⟨_, rfl, d, _, rfl, dget_left hd, _, rfl, _, _, rfl, rfl, b0, ?_⟩
    refine ⟨_, rfl, d, _, rfl, dget_left hd, _, rfl, _, _, rfl, rfl, hdv _, _, rfl, d, _, rfl, dput_left hd, _, rfl, ?_⟩
    exact fin l _ at' u _ (Exb.refl.upd) a0 (by omega) u0 (by omega) upd_same
  · have hl : 0 < cells.length := List.length_pos_iff.mpr hne
    refine ⟨_, rfl, d, _, rfl, dget_cells hd, _, rfl, _, rfl, d, _, rfl, dget_at hd, _, rfl, _, _, rfl, .inl ⟨_, hc, rfl⟩, _, _, rfl, rfl, ?_⟩
    have hlm : (cells.map V.int).length = cells.length := List.length_map ..
    rw [hlm]
    refine ⟨by omega, ?_⟩
    have mp : (at' % (cells.length : Int)).toNat < cells.length ∧ (((at' % (cells.length : Int)).toNat : Nat) : Int) = at' % (cells.length : Int) := by
      have h1 : 0 ≤ at' % (cells.length : Int) := Int.emod_nonneg _ (by omega)
      have h2 : at' % (cells.length : Int) < (cells.length : Int) := Int.emod_lt_of_pos _ (by omega)
      omega
    obtain ⟨cv, hcv⟩ : ∃ cv, atI (cells.map V.int) (at' % (cells.length : Int)) = some (.int cv) := by
      refine ⟨cells[(at' % (cells.length : Int)).toNat]'(mp.1), ?_⟩
      have h1 : ixN (cells.map V.int).length (at' % (cells.length : Int)) = some (at' % (cells.length : Int)).toNat := by
        have := mp.2
        have := mp.1
        unfold ixN
        rw [if_pos (by omega), if_pos (by rw [hlm]; omega)]
      unfold atI
      rw [h1]
      show (cells.map V.int)[(at' % (cells.length : Int)).toNat]? = _
      rw [List.getElem?_map, List.getElem?_eq_getElem mp.1]
      rfl
    refine ⟨c, _, _, _, rfl, rfl, hc, hcv, ?_⟩
    refine ⟨_, rfl, d, _, rfl, dget_at hd, _, _, rfl, rfl, _, rfl, d, _, rfl, dput_at hd, ?_⟩
    have hc1 : SqL K (upd H d (.dK (drawD c (at' + 1) l u))) c (cells.map V.int) := (Car.exb hd Exb.refl.upd).l hc
    have p1 : CPow 10 18 := ⟨by decide, by decide, by decide⟩
    refine ⟨_, rfl, _, _, rfl, rfl, p1, _, _, rfl, rfl, _, rfl, iteB (fun g1 => ⟨_, rfl, d, _, rfl, dget_at upd_same, _, rfl, _, _, rfl, .inl ⟨_, hc1, rfl⟩, _, _, rfl, rfl, _, rfl, iteB (fun g2 => ?_) (fun g2 => ?_)⟩) (fun g1 => iteF ?_)⟩
    · refine ⟨_, rfl, _, rfl, _, _, rfl, rfl, hdv _, _, rfl, d, _, rfl, dput_left upd_same, _, rfl, _, rfl, _, _, rfl, rfl, b0, ?_⟩
      exact fin cv _ (at' + 1) u _ (Exb.refl.upd.upd) (by omega) (by omega) u0 (by omega) upd_same
    all_goals
      refine ⟨_, rfl, d, _, rfl, dget_used upd_same, _, _, rfl, rfl, _, rfl, d, _, rfl, dput_used upd_same, ?_⟩
      refine ⟨_, rfl, _, rfl, d, _, rfl, dget_at upd_same, _, _, rfl, cv, _, rfl, rfl, by omega, by omega, fun r1 => ?_⟩
      refine ⟨_, rfl, d, _, rfl, dget_used upd_same, _, _, rfl, r1, _, rfl, rfl, by omega, by omega, fun r2 => ?_⟩
      refine ⟨_, rfl, _, _, rfl, rfl, b0, ?_⟩
      exact fin r2 _ (at' + 1) (u + 1) _ (Exb.refl.upd.upd) (by omega) (by omega) (by omega) (by omega) upd_same
theorem ok__law_next (T : Txt P K mg base D) : CallG P w K mg base 2 D._law_next [] (spNext K) := by
  obtain ⟨fd, F, B⟩ := fb__law_next (w := w) (base := base) T
  exact B.pos sp2_len (F.binds (ps := ["draw", "bound"]) fun _ _ _ _ _ _ us hl => match us, hl with | [_, _], _ => rfl)
abbrev N__law_number_of : List Str := ["page", "parts", "part", "above", "below"]
theorem sc__law_number_of : FnScope N__law_number_of ["page"] (defScope s__law_number_of) := ⟨rfl, rfl, rfl, by decide +kernel, rfl, by decide +kernel, by decide +kernel⟩
def lawD (l : List Nat) : List PyData := match Rm.numOf l with
  | some (p, q) => [.tuple [.int p, .int q]]
  | none => []
def spLawNum (K : Frag) : Sp := sp1 fun x H Q _ => ∃ l : List Nat, x = .str (S l) ∧ l.length ≤ 16000000 ∧ okL l ∧ ∀ a H', Ex H H' → Dp K H' (.ref a) (.list (lawD l)) → Q (.ref a) H'
theorem fb__law_number_of (T : Txt P K mg base D) : ∃ fd, Fun K "_law_number_of" "_law_number_of" s__law_number_of D._law_number_of fd ∧ FnB P w K mg base 2 D._law_number_of fd ["page"] (spLawNum K) := by
  obtain ⟨fd, F⟩ := T.f__law_number_of
  refine ⟨fd, F, Fun_okB (k := 1) F sc__law_number_of fun cdv A outer s H vs Q E hr hg h => ?_⟩
  have nd := sc__law_number_of.nd
  obtain ⟨x, rfl, l, rfl, hl, hk, hq⟩ := h
  refine ⟨_, (pss_cons (ps_set (i := 1) nd rfl (.inl rfl) (pe_m1 PySem.F.slot_str_split PySem.F.type_str_split mt_split (pe_slice C8.sl_txt (pv 0) (po_some (pe_callTy call_int1 rfl T.n_int (by decide +kernel) (pa_cons (pe_cmpR op_eq (pe_slice C8.sl_txt (pv 0) po_none (po_some pe_int)) pe_str (nomark _)) pa_nil))) po_none) pe_str))
        (pss_cons (ps_if (PW.pt (pw_or (pt_cmpR op_gt (pe_callB call_len rfl T.n_len (by decide +kernel) (pa_cons (pv 1) pa_nil)) pe_int (nomark _)) (pw_or1 (pt_cmpR (op_neD hr.units) (pe_lc (own := [("part", 2)]) (g := gName 2) (by rfl) nd (pi_list (pv 1)) (blkOk_by (own := [("part", 2)]) (N := N__law_number_of) (sc := defScope s__law_number_of) (by decide +kernel)) (fun _ _ _ _ _ => pg_name (i := 2) nd rfl (Or.inl rfl)) (fun _ _ _ _ _ => (pts_one (pt_not (pt_val (pe_callG (ok__law_is_digits T) (hr.mono (by decide)) hg takesF rfl T.g__law_is_digits T.k__law_is_digits (pa_cons (pv 2) pa_nil)))))) (fun _ _ _ _ _ => (pv 2))) (pe_lst pa_nil) (nomark _))))) (pss_one (ps_ret (pe_lst pa_nil))) pss_nil)
        (pss_cons (ps_par rfl nd (i := 3) (j := 4) rfl rfl (by decide) rfl rfl (pa_cons (pe_callTy call_int_str rfl T.n_int (by decide +kernel) (pa_cons (pe_ix ix_list (pv 1) pe_int (fun _ _ => rfl)) pa_nil)) (pa_cons (pe_ifExp (pt_cmpR op_eq (pe_callB call_len rfl T.n_len (by decide +kernel) (pa_cons (pv 1) pa_nil)) pe_int (nomark _)) (pe_callTy call_int_str rfl T.n_int (by decide +kernel) (pa_cons (pe_ix ix_list (pv 1) (pe_un un_neg pe_int) (fun _ _ => rfl)) pa_nil)) pe_int) pa_nil)) (by rfl))
        (pss_cons (ps_if (PW.pt (pw_or (PW.pt (pw_and (pt_cmpR op_eq (pe_callB call_len rfl T.n_len (by decide +kernel) (pa_cons (pv 1) pa_nil)) pe_int (nomark _)) (pw_and1 (pt_cmpR op_lt (pv 4) pe_int (nomark _))))) (pw_or1 (PW.pt (pw_and (pt_cmpR op_eq (pe_slice C8.sl_txt (pv 0) po_none (po_some pe_int)) pe_str (nomark _)) (pw_and1 (pt_cmpR op_eq (pv 3) pe_int (nomark _)))))))) (pss_one (ps_ret (pe_lst pa_nil))) pss_nil)
        (pss_cons (ps_if (pt_cmpR (op_neD hr.units) (pe_callG (ok__law_least T) (hr.mono (by decide)) hg (takes_of rfl rfl rfl rfl) rfl T.g__law_least T.k__law_least (pa_cons (pv 3) (pa_cons (pv 4) pa_nil))) (pe_tup (pa_cons (pv 3) (pa_cons (pv 4) pa_nil))) (nomark _)) (pss_one (ps_ret (pe_lst pa_nil))) pss_nil)
        (pss_one (ps_ret (pe_lst (pa_cons (pe_tup (pa_cons (pe_ifExp (pt_cmpR op_eq (pe_slice C8.sl_txt (pv 0) po_none (po_some pe_int)) pe_str (nomark _)) (pe_op op_sub pe_int (pv 3)) (pv 3)) (pa_cons (pv 4) pa_nil))) pa_nil))))))))), ?_⟩
  have hz : (S l).length ≤ sizeLine := by rw [S_len, sizeLine_eq]; omega
  have hrl := rest_len l
  have ret0 : ∀ G, Ex H G → Rm.numOf l = none → 0 ≤ sizeLine ∧ ∀ p, G p = none → Q (.ref p) (upd G p (.lst [])) := fun G e hn => ⟨Nat.zero_le _, fun p hp => hq p _ (e.trans (Evl.Ex.new hp)) (by
    unfold lawD
    rw [hn]
    exact Dp.lstN (K := K) hp .nil)⟩
  have ek := eq_minus l
  have es := slice_rest l
  refine ⟨_, rfl, _, rfl, 1, rfl, S l, rfl, hz, rfl, .inr ⟨_, rfl, _, rfl, S l, rfl, hz, ⟨_, rfl⟩, S (Rm.restOf l), Str.ofString "/", by rw [ek, es], rfl, by decide, by rw [S_len, sizeLine_eq]; omega, fun p hp => ?_⟩⟩
  rw [split_slash]
  have en := lawNum_eq l
  unfold lawNum at en
  have hsub := spl_sub (Rm.restOf l) []
  have hlen1 := spl_len (Rm.restOf l) []
  obtain ⟨pts, ep⟩ : ∃ pts, TL.spl [47] 0 [] (Rm.restOf l) = pts := ⟨_, rfl⟩
  rw [ep] at hsub hlen1 ⊢
  have hP0 : SqL K (upd H p (.lst ((pts.map S).map V.str))) p ((pts.map S).map V.str) := SqL.of upd_same
  have lenm : ((pts.map S).map V.str).length = pts.length := by rw [List.length_map, List.length_map]
  have e1 := Evl.Ex.new (o := .lst ((pts.map S).map V.str)) hp
  refine ⟨_, rfl, _, _, rfl, .inl ⟨_, hP0, rfl⟩, _, _, rfl, rfl, _, rfl, ?_⟩
  rw [lenm]
  refine iteB (fun c => ?_) (fun c => ?_)
  · have h2 : 2 < pts.length := by have : (2 : Int) < (pts.length : Int) := of_decide_eq_true c; omega
    exact ret0 _ e1 (by rw [← en, ep]; simp [h2])
  have h2 : ¬ 2 < pts.length := fun h => of_decide_eq_false c (by omega)
  have hpt : ∀ (i : Nat) (x : V), ((pts.map S).map V.str)[i]? = some x → ∃ q, pts[i]? = some q ∧ x = .str (S q) ∧ q.length ≤ 16000000 ∧ okL q := fun i x h => by
    rw [List.getElem?_map, List.getElem?_map] at h
    cases hq' : pts[i]? with
    | none => rw [hq'] at h; cases h
    | some q =>
      rw [hq'] at h
      obtain ⟨h3, h4⟩ := hsub q (List.mem_of_getElem? hq')
      refine ⟨q, rfl, (Option.some.inj h).symm, ?_, fun c hc => hk c (rest_sub c (by simpa using h3 c hc))⟩
      simp at h4
      omega
  refine ⟨_, rfl, p, rfl, ⟨_, hP0⟩, fun LD hLD => lcf_it (G := fun H => SqL K H p ((pts.map S).map V.str)) walk_list (fun i => .str (S (pts.getD i []))) (fun i => !canon (pts.getD i [])) (by rw [lenm]; omega) hLD (fun H e => (Car.ex e).l hP0) ?_ ?_⟩
  · rintro i Hc x Hd hi ec ⟨rfl, hx⟩
    obtain ⟨q, hq1, rfl, hq3, hq4⟩ := hpt i x hx
    have e2 : pts.getD i [] = q := by rw [List.getD_eq_getElem?_getD, hq1]; rfl
    rw [e2]
    refine ⟨Evl.Ex.refl _, fun R hR => ⟨_, rfl, _, rfl, q, rfl, hq3, hq4, fun H4 e4 => ⟨_, rfl, hR _ e4⟩⟩, fun _ H4 R e4 hR => ⟨_, rfl, hR H4 (Evl.Ex.refl _)⟩⟩
  intro H3 h3 e3'
  rw [lenm] at h3
  have nil_iff : fmV (fun i => V.str (S (pts.getD i []))) (fun i => !canon (pts.getD i [])) pts.length = [] ↔ pts.all canon = true := by
    constructor
    · intro h
      refine List.all_eq_true.mpr fun c hc => ?_
      obtain ⟨i, hi, e⟩ := List.mem_iff_getElem.mp hc
      by_cases hd : canon c = true
      · exact hd
      · refine absurd h (fmV_some (i := i) hi ?_)
        have : pts.getD i [] = c := by rw [List.getD_eq_getElem?_getD, List.getElem?_eq_getElem hi, e]; rfl
        show (!canon (pts.getD i [])) = true
        rw [this]
        simpa using hd
    · intro h
      refine fmV_none fun i hi => ?_
      have : pts.getD i [] = pts[i] := by rw [List.getD_eq_getElem?_getD, List.getElem?_eq_getElem hi]; rfl
      show (!canon (pts.getD i [])) = false
      rw [this, List.all_eq_true.mp h _ (List.getElem_mem hi)]
      rfl
  obtain ⟨ds, hds, hnil, hok⟩ := strs_data (K := K) (H := H3) (xs := fmV (fun i => V.str (S (pts.getD i []))) (fun i => !canon (pts.getD i [])) pts.length) (fun x hx => by
    obtain ⟨i, hi, _, rfl⟩ := fmV_mem hx
    have : pts.getD i [] = pts[i] := by rw [List.getD_eq_getElem?_getD, List.getElem?_eq_getElem hi]; rfl
    refine ⟨_, rfl, ?_⟩
    rw [this]
    obtain ⟨h3, _⟩ := hsub pts[i] (List.getElem_mem hi)
    exact okL.str fun c hc => hk c (rest_sub c (by simpa using h3 c hc)))
  refine ⟨sz5 (by simp), fun p2 hp2 => ⟨_, _, Dp.new (K := K) _ hp2 (.lst (SqL.of h3) hds), Dp.lstN (K := K) hp2 .nil, shaped_list hok, shaped_nil, _, rfl, ?_⟩⟩
  rw [eqv_nil]
  have e3 : Ex H (upd H3 p2 (.lst [])) := (e1.trans e3').trans (Evl.Ex.new hp2)
  have hP : SqL K (upd H3 p2 (.lst [])) p ((pts.map S).map V.str) := (Car.ex (e3'.trans (Evl.Ex.new hp2))).l hP0
  refine iteB (fun c3 => ?_) (fun c3 => ?_)
  · have hd : ¬ ds = [] := by simpa using c3
    refine ret0 _ e3 ?_
    have ha : pts.all canon = false := by
      cases e : pts.all canon with
      | false => rfl
      | true => exact absurd (hnil.mpr (nil_iff.mpr e)) hd
    rw [← en, ep, if_pos (.inr ha)]
  have hall := nil_iff.mp (hnil.mp (by simpa using c3))
  obtain ⟨a, rfl⟩ | ⟨a, b, rfl⟩ : (∃ a, pts = [a]) ∨ ∃ a b, pts = [a, b] := by
    cases pts with
    | nil => simp at hlen1
    | cons a r =>
      cases r with
      | nil => exact .inl ⟨a, rfl⟩
      | cons b r =>
        cases r with
        | nil => exact .inr ⟨a, b, rfl⟩
        | cons _ _ => simp at h2
  · have ca : canon a = true := List.all_eq_true.mp hall a List.mem_cons_self
    obtain ⟨a1, a2, a3⟩ := canon_digits ca
    have ba := digits_bd ca
    refine ⟨_, rfl, p, _, 0, _, rfl, rfl, hP, atI_head _ _, _, _, rfl, int_S (canon_isdig ca) a2 (by omega), by rw [S_len]; omega, ?_⟩
    refine ⟨_, rfl, _, _, rfl, .inl ⟨_, hP, rfl⟩, rfl, _, rfl, iteB (fun c => absurd c (by simp)) (fun _ => ⟨_, _, rfl, ?_⟩)⟩
    have en2 : Rm.numOf l = if (False) ∨ (negOf l = true ∧ NumText.digitsVal a = 0) then none else if Nat.gcd (NumText.digitsVal a) 1 ≠ 1 then none else some (sgI (negOf l) (NumText.digitsVal a), ((1 : Nat) : Int)) := by
      rw [← en, ep]
      simp [ca]
    generalize NumText.digitsVal a = A at *
    refine ⟨_, rfl, _, _, rfl, .inl ⟨_, hP, rfl⟩, rfl, _, rfl, iteB (fun c => absurd c (by simp)) (fun _ => iteF ?_)⟩
    refine ⟨_, rfl, 1, rfl, S l, rfl, hz, rfl, _, rfl, ?_⟩
    rw [eq_minus]
    by_cases hna : negOf l = true ∧ A = 0
    · refine iteB (fun _ => ?_) (fun c => absurd hna.1 (by rw [c]; simp))
      refine ⟨_, rfl, rfl, _, rfl, iteB (fun _ => ?_) (fun c => absurd hna.2 (fun z => of_decide_eq_false c (by rw [z]; rfl)))⟩
      exact ret0 _ e3 (by rw [en2, if_pos (.inr hna)])
    refine iteB (fun cn => ?_) (fun cn => iteF ?_)
    · refine ⟨_, rfl, rfl, _, rfl, iteB (fun c => absurd ⟨cn, by have := V.int.inj (of_decide_eq_true c); omega⟩ hna) (fun _ => ?_)⟩
      refine ⟨_, rfl, _, rfl, _, _, rfl, (A : Int), (1 : Int), rfl, rfl, by omega, Bd.mono (m := 1) (by unfold Bd; decide) (by decide), fun t H5 ht e5 h5 => ?_⟩
      refine ⟨_, rfl, _, rfl, sz5 (by simp), fun t2 ht2 => ?_⟩
      have e6 := (e3.trans e5).trans (Evl.Ex.new (o := .tup [.int (A : Int), .int (1 : Int)]) ht2)
      refine ⟨_, _, Dp.new (K := K) _ ht2 (NumAt.new (K := K) h5).d, Dp.tupN (K := K) ht2 (.cons (.int _) (.cons (.int _) .nil)), shaped_num _ _, shaped_num _ _, _, rfl, ?_⟩
      by_cases hg : Nat.gcd A 1 = 1
      · have hi : IsNum (A : Int) (1 : Int) := ⟨by omega, by show Int.gcd ((A : Nat) : Int) ((1 : Nat) : Int) = 1; rw [Int.gcd_natCast_natCast]; exact hg⟩
        rw [red_same hi, eqv_num, decide_eq_true rfl, decide_eq_true rfl]
        refine iteF ⟨_, rfl, 1, rfl, S l, rfl, hz, rfl, _, rfl, ?_⟩
        rw [eq_minus]
        have en3 : Rm.numOf l = some (sgI (negOf l) A, ((1 : Nat) : Int)) := by rw [en2, if_neg (by rintro (z | z); exact z; exact hna z), if_neg (by simpa using hg)]
        refine iteB (fun c => ?_) (fun c => ?_)
        · refine ⟨_, rfl, _, _, rfl, rfl, _, rfl, sz5 (by simp), fun t3 ht3 => ⟨sz5 (by simp), fun t4 ht4 => ?_⟩⟩
          have ev : (0 - (A : Int)) = sgI (negOf l) A := by unfold sgI; rw [c]; simp
          refine hq t4 _ (e6.trans ((Evl.Ex.new (o := .tup [.int (0 - (A : Int)), .int (1 : Int)]) ht3).trans (Evl.Ex.new ht4))) ?_
          have d3 : Dp K (upd _ t3 (.tup [.int (0 - (A : Int)), .int (1 : Int)])) (.ref t3) (.tuple [.int (0 - (A : Int)), .int (1 : Int)]) := Dp.tupN (K := K) ht3 (.cons (.int _) (.cons (.int _) .nil))
          have d4 := Dp.lstN (K := K) ht4 (.cons d3 .nil)
          unfold lawD
          rw [en3]
          show Dp K _ (.ref t4) (.list [.tuple [.int (sgI (negOf l) A), .int (1 : Int)]])
          rw [← ev]
          exact d4
        · refine ⟨_, rfl, _, rfl, sz5 (by simp), fun t3 ht3 => ⟨sz5 (by simp), fun t4 ht4 => ?_⟩⟩
          have ev : (A : Int) = sgI (negOf l) A := by unfold sgI; rw [c]; simp
          refine hq t4 _ (e6.trans ((Evl.Ex.new (o := .tup [.int (A : Int), .int (1 : Int)]) ht3).trans (Evl.Ex.new ht4))) ?_
          have d3 : Dp K (upd _ t3 (.tup [.int (A : Int), .int (1 : Int)])) (.ref t3) (.tuple [.int (A : Int), .int (1 : Int)]) := Dp.tupN (K := K) ht3 (.cons (.int _) (.cons (.int _) .nil))
          have d4 := Dp.lstN (K := K) ht4 (.cons d3 .nil)
          unfold lawD
          rw [en3]
          show Dp K _ (.ref t4) (.list [.tuple [.int (sgI (negOf l) A), .int (1 : Int)]])
          rw [← ev]
          exact d4
      · have hne : ¬ (red (A : Int) (1 : Int) = ((A : Int), (1 : Int))) := fun z => hg (by
          have hi := red_num (a := (A : Int)) (b := (1 : Int)) (by omega)
          rw [z] at hi
          have h2 : Int.gcd ((A : Nat) : Int) ((1 : Nat) : Int) = 1 := hi.2
          rwa [Int.gcd_natCast_natCast] at h2)
        have ef : PyData.eqv (.tuple [.int (red (A : Int) (1 : Int)).1, .int (red (A : Int) (1 : Int)).2]) (.tuple [.int (A : Int), .int (1 : Int)]) = false := by
          rw [eqv_num]
          refine Bool.eq_false_iff.mpr fun z => hne ?_
          obtain ⟨z1, z2⟩ := Bool.and_eq_true_iff.mp z
          exact Prod.ext (of_decide_eq_true z1) (of_decide_eq_true z2)
        rw [ef]
        exact iteT (ret0 _ e6 (by rw [en2, if_neg (by rintro (z | z); exact z; exact hna z), if_pos hg]))
    refine ⟨_, rfl, _, rfl, _, _, rfl, (A : Int), (1 : Int), rfl, rfl, by omega, Bd.mono (m := 1) (by unfold Bd; decide) (by decide), fun t H5 ht e5 h5 => ?_⟩
    refine ⟨_, rfl, _, rfl, sz5 (by simp), fun t2 ht2 => ?_⟩
    have e6 := (e3.trans e5).trans (Evl.Ex.new (o := .tup [.int (A : Int), .int (1 : Int)]) ht2)
    refine ⟨_, _, Dp.new (K := K) _ ht2 (NumAt.new (K := K) h5).d, Dp.tupN (K := K) ht2 (.cons (.int _) (.cons (.int _) .nil)), shaped_num _ _, shaped_num _ _, _, rfl, ?_⟩
    by_cases hg : Nat.gcd A 1 = 1
    · have hi : IsNum (A : Int) (1 : Int) := ⟨by omega, by show Int.gcd ((A : Nat) : Int) ((1 : Nat) : Int) = 1; rw [Int.gcd_natCast_natCast]; exact hg⟩
      rw [red_same hi, eqv_num, decide_eq_true rfl, decide_eq_true rfl]
      refine iteF ⟨_, rfl, 1, rfl, S l, rfl, hz, rfl, _, rfl, ?_⟩
      rw [eq_minus]
      have en3 : Rm.numOf l = some (sgI (negOf l) A, ((1 : Nat) : Int)) := by rw [en2, if_neg (by rintro (z | z); exact z; exact hna z), if_neg (by simpa using hg)]
      refine iteB (fun c => ?_) (fun c => ?_)
      · refine ⟨_, rfl, _, _, rfl, rfl, _, rfl, sz5 (by simp), fun t3 ht3 => ⟨sz5 (by simp), fun t4 ht4 => ?_⟩⟩
        have ev : (0 - (A : Int)) = sgI (negOf l) A := by unfold sgI; rw [c]; simp
        refine hq t4 _ (e6.trans ((Evl.Ex.new (o := .tup [.int (0 - (A : Int)), .int (1 : Int)]) ht3).trans (Evl.Ex.new ht4))) ?_
        have d3 : Dp K (upd _ t3 (.tup [.int (0 - (A : Int)), .int (1 : Int)])) (.ref t3) (.tuple [.int (0 - (A : Int)), .int (1 : Int)]) := Dp.tupN (K := K) ht3 (.cons (.int _) (.cons (.int _) .nil))
        have d4 := Dp.lstN (K := K) ht4 (.cons d3 .nil)
        unfold lawD
        rw [en3]
        show Dp K _ (.ref t4) (.list [.tuple [.int (sgI (negOf l) A), .int (1 : Int)]])
        rw [← ev]
        exact d4
      · refine ⟨_, rfl, _, rfl, sz5 (by simp), fun t3 ht3 => ⟨sz5 (by simp), fun t4 ht4 => ?_⟩⟩
        have ev : (A : Int) = sgI (negOf l) A := by unfold sgI; rw [c]; simp
        refine hq t4 _ (e6.trans ((Evl.Ex.new (o := .tup [.int (A : Int), .int (1 : Int)]) ht3).trans (Evl.Ex.new ht4))) ?_
        have d3 : Dp K (upd _ t3 (.tup [.int (A : Int), .int (1 : Int)])) (.ref t3) (.tuple [.int (A : Int), .int (1 : Int)]) := Dp.tupN (K := K) ht3 (.cons (.int _) (.cons (.int _) .nil))
        have d4 := Dp.lstN (K := K) ht4 (.cons d3 .nil)
        unfold lawD
        rw [en3]
        show Dp K _ (.ref t4) (.list [.tuple [.int (sgI (negOf l) A), .int (1 : Int)]])
        rw [← ev]
        exact d4
    · have hne : ¬ (red (A : Int) (1 : Int) = ((A : Int), (1 : Int))) := fun z => hg (by
        have hi := red_num (a := (A : Int)) (b := (1 : Int)) (by omega)
        rw [z] at hi
        have h2 : Int.gcd ((A : Nat) : Int) ((1 : Nat) : Int) = 1 := hi.2
        rwa [Int.gcd_natCast_natCast] at h2)
      have ef : PyData.eqv (.tuple [.int (red (A : Int) (1 : Int)).1, .int (red (A : Int) (1 : Int)).2]) (.tuple [.int (A : Int), .int (1 : Int)]) = false := by
        rw [eqv_num]
        refine Bool.eq_false_iff.mpr fun z => hne ?_
        obtain ⟨z1, z2⟩ := Bool.and_eq_true_iff.mp z
        exact Prod.ext (of_decide_eq_true z1) (of_decide_eq_true z2)
      rw [ef]
      exact iteT (ret0 _ e6 (by rw [en2, if_neg (by rintro (z | z); exact z; exact hna z), if_pos hg]))
  · have ca : canon a = true := List.all_eq_true.mp hall a List.mem_cons_self
    have cb : canon b = true := List.all_eq_true.mp hall b (List.mem_cons_of_mem _ List.mem_cons_self)
    obtain ⟨a1, a2, a3⟩ := canon_digits ca
    have ba := digits_bd ca
    obtain ⟨b1, b2, b3⟩ := canon_digits cb
    have bb := digits_bd cb
    refine ⟨_, rfl, p, _, 0, _, rfl, rfl, hP, atI_head _ _, _, _, rfl, int_S (canon_isdig ca) a2 (by omega), by rw [S_len]; omega, ?_⟩
    refine ⟨_, rfl, _, _, rfl, .inl ⟨_, hP, rfl⟩, rfl, _, rfl, iteB (fun _ => ?_) (fun c => absurd c (by simp))⟩
    refine ⟨_, rfl, 1, rfl, p, _, -1, V.str (S b), rfl, rfl, hP, by kernel_rfl, _, _, rfl, int_S (canon_isdig cb) b2 (by omega), by rw [S_len]; omega, _, _, rfl, ?_⟩
    have en2 : Rm.numOf l = if ((NumText.digitsVal b) < 2) ∨ (negOf l = true ∧ NumText.digitsVal a = 0) then none else if Nat.gcd (NumText.digitsVal a) (NumText.digitsVal b) ≠ 1 then none else some (sgI (negOf l) (NumText.digitsVal a), (((NumText.digitsVal b) : Nat) : Int)) := by
      rw [← en, ep]
      simp [ca, cb]
    generalize NumText.digitsVal a = A at *
    generalize NumText.digitsVal b = B at *
    refine ⟨_, rfl, _, _, rfl, .inl ⟨_, hP, rfl⟩, rfl, _, rfl, iteB (fun _ => ?_) (fun c => absurd c (by simp))⟩
    refine ⟨_, rfl, _, _, rfl, rfl, _, rfl, iteB (fun c => ?_) (fun c => ?_)⟩
    · have hB : B < 2 := by have : ((B : Nat) : Int) < 2 := of_decide_eq_true c; omega
      exact ret0 _ e3 (by rw [en2, if_pos (.inl hB)])
    have hB : ¬ B < 2 := fun h => of_decide_eq_false c (by omega)
    refine ⟨_, rfl, 1, rfl, S l, rfl, hz, rfl, _, rfl, ?_⟩
    rw [eq_minus]
    by_cases hna : negOf l = true ∧ A = 0
    · refine iteB (fun _ => ?_) (fun c => absurd hna.1 (by rw [c]; simp))
      refine ⟨_, rfl, rfl, _, rfl, iteB (fun _ => ?_) (fun c => absurd hna.2 (fun z => of_decide_eq_false c (by rw [z]; rfl)))⟩
      exact ret0 _ e3 (by rw [en2, if_pos (.inr hna)])
    refine iteB (fun cn => ?_) (fun cn => iteF ?_)
    · refine ⟨_, rfl, rfl, _, rfl, iteB (fun c => absurd ⟨cn, by have := V.int.inj (of_decide_eq_true c); omega⟩ hna) (fun _ => ?_)⟩
      refine ⟨_, rfl, _, rfl, _, _, rfl, (A : Int), ((B : Nat) : Int), rfl, rfl, by omega, bb.mono (by decide), fun t H5 ht e5 h5 => ?_⟩
      refine ⟨_, rfl, _, rfl, sz5 (by simp), fun t2 ht2 => ?_⟩
      have e6 := (e3.trans e5).trans (Evl.Ex.new (o := .tup [.int (A : Int), .int ((B : Nat) : Int)]) ht2)
      refine ⟨_, _, Dp.new (K := K) _ ht2 (NumAt.new (K := K) h5).d, Dp.tupN (K := K) ht2 (.cons (.int _) (.cons (.int _) .nil)), shaped_num _ _, shaped_num _ _, _, rfl, ?_⟩
      by_cases hg : Nat.gcd A B = 1
      · have hi : IsNum (A : Int) ((B : Nat) : Int) := ⟨by omega, by show Int.gcd ((A : Nat) : Int) ((B : Nat) : Int) = 1; rw [Int.gcd_natCast_natCast]; exact hg⟩
        rw [red_same hi, eqv_num, decide_eq_true rfl, decide_eq_true rfl]
        refine iteF ⟨_, rfl, 1, rfl, S l, rfl, hz, rfl, _, rfl, ?_⟩
        rw [eq_minus]
        have en3 : Rm.numOf l = some (sgI (negOf l) A, ((B : Nat) : Int)) := by rw [en2, if_neg (by rintro (z | z); exact hB z; exact hna z), if_neg (by simpa using hg)]
        refine iteB (fun c => ?_) (fun c => ?_)
        · refine ⟨_, rfl, _, _, rfl, rfl, _, rfl, sz5 (by simp), fun t3 ht3 => ⟨sz5 (by simp), fun t4 ht4 => ?_⟩⟩
          have ev : (0 - (A : Int)) = sgI (negOf l) A := by unfold sgI; rw [c]; simp
          refine hq t4 _ (e6.trans ((Evl.Ex.new (o := .tup [.int (0 - (A : Int)), .int ((B : Nat) : Int)]) ht3).trans (Evl.Ex.new ht4))) ?_
          have d3 : Dp K (upd _ t3 (.tup [.int (0 - (A : Int)), .int ((B : Nat) : Int)])) (.ref t3) (.tuple [.int (0 - (A : Int)), .int ((B : Nat) : Int)]) := Dp.tupN (K := K) ht3 (.cons (.int _) (.cons (.int _) .nil))
          have d4 := Dp.lstN (K := K) ht4 (.cons d3 .nil)
          unfold lawD
          rw [en3]
          show Dp K _ (.ref t4) (.list [.tuple [.int (sgI (negOf l) A), .int ((B : Nat) : Int)]])
          rw [← ev]
          exact d4
        · refine ⟨_, rfl, _, rfl, sz5 (by simp), fun t3 ht3 => ⟨sz5 (by simp), fun t4 ht4 => ?_⟩⟩
          have ev : (A : Int) = sgI (negOf l) A := by unfold sgI; rw [c]; simp
          refine hq t4 _ (e6.trans ((Evl.Ex.new (o := .tup [.int (A : Int), .int ((B : Nat) : Int)]) ht3).trans (Evl.Ex.new ht4))) ?_
          have d3 : Dp K (upd _ t3 (.tup [.int (A : Int), .int ((B : Nat) : Int)])) (.ref t3) (.tuple [.int (A : Int), .int ((B : Nat) : Int)]) := Dp.tupN (K := K) ht3 (.cons (.int _) (.cons (.int _) .nil))
          have d4 := Dp.lstN (K := K) ht4 (.cons d3 .nil)
          unfold lawD
          rw [en3]
          show Dp K _ (.ref t4) (.list [.tuple [.int (sgI (negOf l) A), .int ((B : Nat) : Int)]])
          rw [← ev]
          exact d4
      · have hne : ¬ (red (A : Int) ((B : Nat) : Int) = ((A : Int), ((B : Nat) : Int))) := fun z => hg (by
          have hi := red_num (a := (A : Int)) (b := ((B : Nat) : Int)) (by omega)
          rw [z] at hi
          have h2 : Int.gcd ((A : Nat) : Int) ((B : Nat) : Int) = 1 := hi.2
          rwa [Int.gcd_natCast_natCast] at h2)
        have ef : PyData.eqv (.tuple [.int (red (A : Int) ((B : Nat) : Int)).1, .int (red (A : Int) ((B : Nat) : Int)).2]) (.tuple [.int (A : Int), .int ((B : Nat) : Int)]) = false := by
          rw [eqv_num]
          refine Bool.eq_false_iff.mpr fun z => hne ?_
          obtain ⟨z1, z2⟩ := Bool.and_eq_true_iff.mp z
          exact Prod.ext (of_decide_eq_true z1) (of_decide_eq_true z2)
        rw [ef]
        exact iteT (ret0 _ e6 (by rw [en2, if_neg (by rintro (z | z); exact hB z; exact hna z), if_pos hg]))
    refine ⟨_, rfl, _, rfl, _, _, rfl, (A : Int), ((B : Nat) : Int), rfl, rfl, by omega, bb.mono (by decide), fun t H5 ht e5 h5 => ?_⟩
    refine ⟨_, rfl, _, rfl, sz5 (by simp), fun t2 ht2 => ?_⟩
    have e6 := (e3.trans e5).trans (Evl.Ex.new (o := .tup [.int (A : Int), .int ((B : Nat) : Int)]) ht2)
    refine ⟨_, _, Dp.new (K := K) _ ht2 (NumAt.new (K := K) h5).d, Dp.tupN (K := K) ht2 (.cons (.int _) (.cons (.int _) .nil)), shaped_num _ _, shaped_num _ _, _, rfl, ?_⟩
    by_cases hg : Nat.gcd A B = 1
    · have hi : IsNum (A : Int) ((B : Nat) : Int) := ⟨by omega, by show Int.gcd ((A : Nat) : Int) ((B : Nat) : Int) = 1; rw [Int.gcd_natCast_natCast]; exact hg⟩
      rw [red_same hi, eqv_num, decide_eq_true rfl, decide_eq_true rfl]
      refine iteF ⟨_, rfl, 1, rfl, S l, rfl, hz, rfl, _, rfl, ?_⟩
      rw [eq_minus]
      have en3 : Rm.numOf l = some (sgI (negOf l) A, ((B : Nat) : Int)) := by rw [en2, if_neg (by rintro (z | z); exact hB z; exact hna z), if_neg (by simpa using hg)]
      refine iteB (fun c => ?_) (fun c => ?_)
      · refine ⟨_, rfl, _, _, rfl, rfl, _, rfl, sz5 (by simp), fun t3 ht3 => ⟨sz5 (by simp), fun t4 ht4 => ?_⟩⟩
        have ev : (0 - (A : Int)) = sgI (negOf l) A := by unfold sgI; rw [c]; simp
        refine hq t4 _ (e6.trans ((Evl.Ex.new (o := .tup [.int (0 - (A : Int)), .int ((B : Nat) : Int)]) ht3).trans (Evl.Ex.new ht4))) ?_
        have d3 : Dp K (upd _ t3 (.tup [.int (0 - (A : Int)), .int ((B : Nat) : Int)])) (.ref t3) (.tuple [.int (0 - (A : Int)), .int ((B : Nat) : Int)]) := Dp.tupN (K := K) ht3 (.cons (.int _) (.cons (.int _) .nil))
        have d4 := Dp.lstN (K := K) ht4 (.cons d3 .nil)
        unfold lawD
        rw [en3]
        show Dp K _ (.ref t4) (.list [.tuple [.int (sgI (negOf l) A), .int ((B : Nat) : Int)]])
        rw [← ev]
        exact d4
      · refine ⟨_, rfl, _, rfl, sz5 (by simp), fun t3 ht3 => ⟨sz5 (by simp), fun t4 ht4 => ?_⟩⟩
        have ev : (A : Int) = sgI (negOf l) A := by unfold sgI; rw [c]; simp
        refine hq t4 _ (e6.trans ((Evl.Ex.new (o := .tup [.int (A : Int), .int ((B : Nat) : Int)]) ht3).trans (Evl.Ex.new ht4))) ?_
        have d3 : Dp K (upd _ t3 (.tup [.int (A : Int), .int ((B : Nat) : Int)])) (.ref t3) (.tuple [.int (A : Int), .int ((B : Nat) : Int)]) := Dp.tupN (K := K) ht3 (.cons (.int _) (.cons (.int _) .nil))
        have d4 := Dp.lstN (K := K) ht4 (.cons d3 .nil)
        unfold lawD
        rw [en3]
        show Dp K _ (.ref t4) (.list [.tuple [.int (sgI (negOf l) A), .int ((B : Nat) : Int)]])
        rw [← ev]
        exact d4
    · have hne : ¬ (red (A : Int) ((B : Nat) : Int) = ((A : Int), ((B : Nat) : Int))) := fun z => hg (by
        have hi := red_num (a := (A : Int)) (b := ((B : Nat) : Int)) (by omega)
        rw [z] at hi
        have h2 : Int.gcd ((A : Nat) : Int) ((B : Nat) : Int) = 1 := hi.2
        rwa [Int.gcd_natCast_natCast] at h2)
      have ef : PyData.eqv (.tuple [.int (red (A : Int) ((B : Nat) : Int)).1, .int (red (A : Int) ((B : Nat) : Int)).2]) (.tuple [.int (A : Int), .int ((B : Nat) : Int)]) = false := by
        rw [eqv_num]
        refine Bool.eq_false_iff.mpr fun z => hne ?_
        obtain ⟨z1, z2⟩ := Bool.and_eq_true_iff.mp z
        exact Prod.ext (of_decide_eq_true z1) (of_decide_eq_true z2)
      rw [ef]
      exact iteT (ret0 _ e6 (by rw [en2, if_neg (by rintro (z | z); exact hB z; exact hna z), if_pos hg]))
theorem ok__law_number_of (T : Txt P K mg base D) : CallG P w K mg base 2 D._law_number_of [] (spLawNum K) := by
  obtain ⟨fd, F, B⟩ := fb__law_number_of (w := w) (base := base) T
  exact B.pos sp1_len (F.binds (ps := ["page"]) fun _ _ _ _ _ _ us hl => match us, hl with | [_], _ => rfl)
abbrev N__law_told : List Str := ["action", "error", "found", "e"]
theorem sc__law_told : FnScope N__law_told ["action"] (defScope s__law_told) := ⟨rfl, rfl, rfl, by decide +kernel, rfl, by decide +kernel, by decide +kernel⟩
theorem tel__law_told (T : Txt P K mg base D) : Tel P w K mg base 2 "_law_told" D._law_told (ttTold D.InvalidText) := by
  obtain ⟨fd, F⟩ := T.f__law_told
  have hbd := F.binds (ps := ["action"]) fun _ _ _ _ _ _ us hl => match us, hl with | [_], _ => rfl
  obtain ⟨oc, od, kV, doc, pm, an, cdv, ct, osl, e, lk, hcd⟩ := F.ex
  subst e
  refine ⟨_, _, _, _, _, _, _, _, _, _, _, _, _, _, N__law_told, lk, hcd, hbd, sc__law_told, rfl, .inl rfl, by decide, by decide, ?_⟩
  intro q A outer f c' s H Q E tl hr hg act hco h
  have nd := sc__law_told.nd
  refine ⟨_, (pss_cons (ps_asg (pe_tup (pa_cons pe_non (pa_cons pe_non pa_nil))) (pg_tup rfl (pgs_cons (pg_name (i := 1) nd rfl (.inl rfl)) (pgs_cons (pg_name (i := 2) nd rfl (.inl rfl)) pgs_nil))))
        (pss_cons (ps_try_caught (i := 3) (j := 1) rfl rfl nd rfl rfl rfl rfl ⟨rfl, by decide, .inl T.g_PaceError⟩ ⟨rfl, by decide, .inl T.g_StateError⟩ ⟨rfl, by decide, .inl T.g_MissingError⟩ (takes_of rfl rfl rfl rfl) (fun W pn xe tk' _ => (pss_one (ps_set (i := 2) nd rfl (.inl rfl) (act W pn xe _ _ tk')))))
        (pss_one (ps_ret (pe_ifExp (pt_cmpR op_isN (pv 1) pe_non (nomark _)) (pe_lst (pa_cons (pv 2) pa_nil)) (pe_callG (ok__law_marks T) (hr.mono (by decide)) hg (takes_of rfl rfl rfl rfl) rfl T.g__law_marks T.k__law_marks (pa_cons (pv 1) pa_nil))))))), ?_⟩
  refine ⟨sz5 (by simp), fun t0 ht0 => ⟨_, _, rfl, SqT.of upd_same, rfl, _, _, rfl, _, _, rfl, rfl, ?_⟩⟩
  have e0 := Evl.Ex.new (o := .tup [.non, .non]) ht0
  refine ⟨rfl, e0 _ _ hco, h _ _ _ e0 ⟨fun v H' hQ => ?_, fun dd H' e' hd hQ => ⟨true, T.e_InvalidText, fun _ a ha => ?_, fun z => by cases z⟩⟩⟩
  · exact ⟨_, rfl, rfl, _, rfl, iteT ⟨_, rfl, sz5 (by simp), fun p hp => hQ p hp⟩⟩
  · have ea := Evl.Ex.new (o := xV a (.ref D.InvalidText) (some dd) false) ha
    exact ⟨_, rfl, rfl, _, rfl, iteF ⟨_, rfl, _, rfl, a, dd, false, rfl, upd_same, ea _ _ hd, fun p hp => hQ p _ (ea.trans (Evl.Ex.new hp)) (exn ea hp) upd_same⟩⟩
abbrev N_check_numbers : List Str := ["things", "thing"]
theorem sc_check_numbers : FnScope N_check_numbers ["things"] (defScope s_check_numbers) := ⟨rfl, rfl, rfl, by decide +kernel, rfl, by decide +kernel, by decide +kernel⟩
theorem fb_check_numbers (T : Txt P K mg base D) : ∃ fd, Fun K "check_numbers" "check_numbers" s_check_numbers D.check_numbers fd ∧ FnB P w K mg base 3 D.check_numbers fd ["things"] (spCheckNums1 K D.InvalidNumber) := by
  obtain ⟨fd, F⟩ := T.f_check_numbers
  refine ⟨fd, F, Fun_okB (k := 2) F sc_check_numbers fun cdv A outer s H vs Q E hr hg h => ?_⟩
  have nd := sc_check_numbers.nd
  obtain ⟨x, rfl, p, vs, rfl, hp, ds, hlen, hds, q⟩ := h
  refine ⟨_, (pss_one (ps_for (passes_of rfl) rfl (pi_tup (pv 0)) (pg_name (i := 1) nd rfl (.inl rfl)) (pss_one (ps_if (pt_not (pt_val (pe_callG (ok_is_number T) (hr.mono (by decide)) hg (takes_of rfl rfl rfl rfl) rfl T.g_is_number T.k_is_number (pa_cons (pv 1) pa_nil)))) (pss_one (ps_raise rfl (takes_of rfl rfl rfl rfl) (pmk_newX T.x_InvalidNumber (hr.mono (by decide)) T.k_InvalidNumber (T.z_InvalidNumber _ rfl) rfl T.g_InvalidNumber (pv 1)))) pss_nil)))), ?_⟩
  refine ⟨_, rfl, p, rfl, ⟨_, hp⟩, for_tup (K := K) (a := p) (xs := vs) (fun i σ H' => Ex H H' ∧ (∃ v, σ = [some (.ref p), v]) ∧ fb (vs.drop i) (ds.drop i) = fb vs ds)
    ⟨Evl.Ex.refl H, ⟨none, rfl⟩, rfl⟩ (fun i σ H' _ z => Evl.ex_t z.1 hp) ?_ ?_⟩
  · rintro i x σ H' hx ⟨ex, ⟨v, rfl⟩, hf⟩
    obtain ⟨d, e1, e2, e3⟩ := fb_drop ((Car.ex ex).ds hds) hx
    refine ⟨_, rfl, _, rfl, d, e2, fun H2 ex2 => ⟨_, rfl, ?_⟩⟩
    refine iteB (fun c => ?_) (fun c => ?_)
    · have c' : isNumD d = false := by simpa using c
      rw [hf, if_neg (by rw [c']; simp)] at e3
      rw [e3] at q
      refine ⟨_, rfl, fun dd hdd => ?_⟩
      exact q dd _ (ex.trans (ex2.trans (Evl.Ex.new hdd))) upd_same
    · have c' : isNumD d = true := by simpa using c
      rw [hf, if_pos c'] at e3
      exact ⟨ex.trans ex2, ⟨some x, rfl⟩, e3.symm⟩
  · rintro σ H' ⟨ex, ⟨v, rfl⟩, hf⟩
    have : fb vs ds = none := by
      rw [← hf, List.drop_length]
      rfl
    rw [this] at q
    exact q H' ex
theorem ok_check_numbers (T : Txt P K mg base D) : CallG P w K mg base 3 D.check_numbers [] (fun vs H Q E => vs.length ≤ sizeLine ∧ ∀ p, H p = none → (spCheckNums1 K D.InvalidNumber) [.ref p] (upd H p (.tup vs)) Q E) := by
  obtain ⟨fd, F, B⟩ := fb_check_numbers (w := w) (base := base) T
  exact FnB.star (pv := "things") B (by obtain ⟨_, _, _, _, _, _, _, _, _, rfl, _⟩ := F.ex; intro rest; cases rest <;> rfl)
abbrev N__law_choose : List Str := ["draw", "some"]
theorem sc__law_choose : FnScope N__law_choose ["draw", "some"] (defScope s__law_choose) := ⟨rfl, rfl, rfl, by decide +kernel, rfl, by decide +kernel, by decide +kernel⟩
def spChoose (K : Frag) : Sp := sp2 fun x y H Q _ => ∃ d n l xs, x = .ref d ∧ y = .ref l ∧ DrawAt K H d n ∧ n < 2 ^ 49 ∧ SqL K H l xs ∧ xs ≠ [] ∧ xs.length ≤ 1000 ∧ ∀ v ∈ xs, ∀ H', DrawAt K H' d (n + 1) → Exb d H H' → Q v H'
theorem fb__law_choose (T : Txt P K mg base D) : ∃ fd, Fun K "_law_choose" "_law_choose" s__law_choose D._law_choose fd ∧ FnB P w K mg base 3 D._law_choose fd ["draw", "some"] (spChoose K) := by
  obtain ⟨fd, F⟩ := T.f__law_choose
  refine ⟨fd, F, Fun_okB (k := 2) F sc__law_choose fun cdv A outer s H vs Q E hr hg h => ?_⟩
  have nd := sc__law_choose.nd
  obtain ⟨x, y, rfl, d, n, l, xs, rfl, rfl, hD, hn, hl, h0, hz, q⟩ := h
  refine ⟨_, (pss_one (ps_ret (pe_ix ix_list (pv 1) (pe_callG (ok__law_next T) (hr.mono (by decide)) hg (takes_of rfl rfl rfl rfl) rfl T.g__law_next T.k__law_next (pa_cons (pv 0) (pa_cons (pe_callB call_len rfl T.n_len (by decide +kernel) (pa_cons (pv 1) pa_nil)) pa_nil))) (fun _ _ => rfl)))), ?_⟩
  have hp : 0 < xs.length := List.length_pos_iff.mpr h0
  refine ⟨_, rfl, _, rfl, _, rfl, _, _, rfl, .inl ⟨_, hl, rfl⟩, _, _, rfl, d, n, _, rfl, rfl, hD, by omega, by omega, by omega, fun r r0 r1 H1 D1 e1 => ?_⟩
  obtain ⟨v, hv, hm⟩ := atI_mem r0 r1
  exact ⟨l, _, r, _, rfl, rfl, (hD.car e1).l hl, hv, q v hm H1 D1 e1⟩
theorem ok__law_choose (T : Txt P K mg base D) : CallG P w K mg base 3 D._law_choose [] (spChoose K) := by
  obtain ⟨fd, F, B⟩ := fb__law_choose (w := w) (base := base) T
  exact B.pos sp2_len (F.binds (ps := ["draw", "some"]) fun _ _ _ _ _ _ us hl => match us, hl with | [_, _], _ => rfl)
abbrev N_number_text : List Str := ["value"]
theorem sc_number_text : FnScope N_number_text ["value"] (defScope s_number_text) := ⟨rfl, rfl, rfl, by decide +kernel, rfl, by decide +kernel, by decide +kernel⟩
theorem fb_number_text (T : Txt P K mg base D) : ∃ fd, Fun K "number_text" "number_text" s_number_text D.number_text fd ∧ FnB P w K mg base 4 D.number_text fd ["value"] (spNumText K D.InvalidNumber) := by
  obtain ⟨fd, F⟩ := T.f_number_text
  refine ⟨fd, F, Fun_okB (k := 3) F sc_number_text fun cdv A outer s H vs Q E hr hg h => ?_⟩
  have nd := sc_number_text.nd
  obtain ⟨x, rfl, dx, hx, qe, qn⟩ := h
  refine ⟨_, (pss_cons (ps_expr (pe_callG (ok_check_numbers T) (hr.mono (by decide)) hg (takes_of rfl rfl rfl rfl) rfl T.g_check_numbers T.k_check_numbers (pa_cons (pv 0) pa_nil)))
        (pss_one (ps_ret (pe_ifExp (pt_cmpR op_eq (pe_ix ix_tup (pv 0) pe_int (fun _ _ => rfl)) pe_int (nomark _)) (pe_callTy call_str_int rfl T.n_str (by decide +kernel) (pa_cons (pe_ix ix_tup (pv 0) pe_int (fun _ _ => rfl)) pa_nil)) (pe_joined (.cons (pe_fmt (pe_ix ix_tup (pv 0) pe_int (fun _ _ => rfl))) (.cons pe_str (.cons (pe_fmt (pe_ix ix_tup (pv 0) pe_int (fun _ _ => rfl))) .nil)))))))), ?_⟩
  refine ⟨_, rfl, checkNums_in ⟨[dx], by show 1 ≤ 1000; decide, .cons hx .nil, ?_⟩⟩
  cases e : fb [x] [dx] with
  | some z =>
    obtain ⟨h1, rfl⟩ := fb_some1 e
    exact qe h1
  | none =>
    obtain ⟨p, q, rfl, i1⟩ := isNumD_inv (fb_none1 e)
    intro H1 ex
    obtain ⟨bp, bq, hq⟩ := qn p q rfl i1
    have q0 := hq H1 ex
    obtain ⟨a, rfl, ha⟩ := NumAt.of ((Car.ex ex).d hx)
    have lp : p.natAbs.log2 < 1920 := bp
    have lq : q.natAbs.log2 < 1920 := bq
    refine ⟨_, rfl, _, _, _, _, rfl, rfl, ha, rfl, rfl, _, rfl, iteB (fun c => ?_) (fun c => ?_)⟩
    · have h1 : q = 1 := V.int.inj (of_decide_eq_true c)
      have et : ntext p q = Str.ofString (toString p) := if_pos h1
      rw [et] at q0
      exact ⟨_, rfl, _, _, _, _, rfl, rfl, ha, rfl, _, rfl, lp, q0⟩
    · have h1 : ¬ q = 1 := fun z => of_decide_eq_false c (by rw [z])
      have et : ntext p q = Str.empty ++ Str.ofString (toString p) ++ Str.ofString "/" ++ Str.ofString (toString q) := if_neg h1
      have zl := ntext_len bp bq
      rw [et] at q0 zl
      have e1 := int_len bp
      have e2 := int_len bq
      have e3 : Str.empty.length = 0 := rfl
      have e4 : (Str.ofString "/").length = 1 := by decide
      refine ⟨_, rfl, _, _, _, _, rfl, rfl, ha, rfl, .inr ⟨_, rfl, lp, _, rfl, by rw [Str.length_append, sizeLine_eq]; omega, _, rfl, by rw [Str.length_append, Str.length_append, sizeLine_eq]; omega, _, rfl, _, _, _, _, rfl, rfl, ha, rfl, .inr ⟨_, rfl, lq, _, rfl, by rw [Str.length_append, Str.length_append, Str.length_append, sizeLine_eq]; omega, q0⟩⟩⟩
theorem ok_number_text (T : Txt P K mg base D) : CallG P w K mg base 4 D.number_text [] (spNumText K D.InvalidNumber) := by
  obtain ⟨fd, F, B⟩ := fb_number_text (w := w) (base := base) T
  exact B.pos sp1_len (F.binds (ps := ["value"]) fun _ _ _ _ _ _ us hl => match us, hl with | [_], _ => rfl)
theorem ok_number_text_value (T : Txt P K mg base D) : CallG P w K mg base 4 D.number_text ["value"] (fun vs H Q E => vs.length = 1 ∧ (spNumText K D.InvalidNumber) (permV [0] vs) H Q E) := by
  obtain ⟨fd, F, B⟩ := fb_number_text (w := w) (base := base) T
  refine FnB.perm (ks := ["value"]) B [0] 1 sp1_len fun s us ws hk hw hl => ?_
  match us, ws, hw, hl with
  | [], [_], _, _ =>
    obtain ⟨_, _, _, _, _, _, _, _, _, rfl, _⟩ := F.ex
    exact BindsTo.of_eq rfl
  | _ :: _, [_], _, h => exact absurd h (by simp)
abbrev N__law_value : List Str := ["draw", "tops", "above", "below", "found"]
theorem sc__law_value : FnScope N__law_value ["draw"] (defScope s__law_value) := ⟨rfl, rfl, rfl, by decide +kernel, rfl, by decide +kernel, by decide +kernel⟩
def spValue (K : Frag) : Sp := sp1 fun x H Q _ => ∃ d n, x = .ref d ∧ DrawAt K H d n ∧ n < 2 ^ 48 ∧ ∀ p q t H', IsNum p q → p.natAbs < G400 → q.natAbs < G400 → H' t = some (.tup [.int p, .int q]) → DrawAt K H' d (n + 20) → Exb d H H' → Q (.ref t) H'
theorem fb__law_value (T : Txt P K mg base D) : ∃ fd, Fun K "_law_value" "_law_value" s__law_value D._law_value fd ∧ FnB P w K mg base 4 D._law_value fd ["draw"] (spValue K) := by
  obtain ⟨fd, F⟩ := T.f__law_value
  refine ⟨fd, F, Fun_okB (k := 3) F sc__law_value fun cdv A outer s H vs Q E hr hg h => ?_⟩
  have nd := sc__law_value.nd
  obtain ⟨x, rfl, d, n, rfl, hD, hn, hq⟩ := h
  refine ⟨_, (pss_cons (ps_set (i := 1) nd rfl (.inl rfl) (pe_lst (pa_cons pe_int (pa_cons pe_int (pa_cons (pe_op op_pow pe_int pe_int) (pa_cons (pe_op op_pow pe_int pe_int) (pa_cons (pe_op op_pow pe_int pe_int) (pa_cons (pe_op op_pow pe_int pe_int) pa_nil))))))))
        (pss_cons (ps_par rfl nd (i := 2) (j := 3) rfl rfl (by decide) rfl rfl (pa_cons (pe_callG (ok__law_next T) (hr.mono (by decide)) hg (takes_of rfl rfl rfl rfl) rfl T.g__law_next T.k__law_next (pa_cons (pv 0) (pa_cons (pe_callG (ok__law_choose T) (hr.mono (by decide)) hg (takes_of rfl rfl rfl rfl) rfl T.g__law_choose T.k__law_choose (pa_cons (pv 0) (pa_cons (pv 1) pa_nil))) pa_nil))) (pa_cons (pe_op op_add pe_int (pe_callG (ok__law_next T) (hr.mono (by decide)) hg (takes_of rfl rfl rfl rfl) rfl T.g__law_next T.k__law_next (pa_cons (pv 0) (pa_cons (pe_callG (ok__law_choose T) (hr.mono (by decide)) hg (takes_of rfl rfl rfl rfl) rfl T.g__law_choose T.k__law_choose (pa_cons (pv 0) (pa_cons (pv 1) pa_nil))) pa_nil)))) pa_nil)) (by rfl))
        (pss_cons (ps_set (i := 2) nd rfl (.inl rfl) (pe_ifExp (pt_cmpR op_eq (pe_callG (ok__law_next T) (hr.mono (by decide)) hg (takes_of rfl rfl rfl rfl) rfl T.g__law_next T.k__law_next (pa_cons (pv 0) (pa_cons pe_int pa_nil))) pe_int (nomark _)) (pe_op op_add (pv 2) (pe_callTy call_int_str rfl T.n_int (by decide +kernel) (pa_cons (pe_op op_add_str pe_str (pe_op op_repS pe_str pe_int)) pa_nil))) (pv 2)))
        (pss_cons (ps_set (i := 3) nd rfl (.inl rfl) (pe_ifExp (pt_cmpR op_eq (pe_callG (ok__law_next T) (hr.mono (by decide)) hg (takes_of rfl rfl rfl rfl) rfl T.g__law_next T.k__law_next (pa_cons (pv 0) (pa_cons pe_int pa_nil))) pe_int (nomark _)) (pe_op op_add (pv 3) (pe_callTy call_int_str rfl T.n_int (by decide +kernel) (pa_cons (pe_op op_add_str pe_str (pe_op op_repS pe_str pe_int)) pa_nil))) (pv 3)))
        (pss_cons (ps_set (i := 3) nd rfl (.inl rfl) (pe_ifExp (pt_cmpR op_eq (pe_callG (ok__law_next T) (hr.mono (by decide)) hg (takes_of rfl rfl rfl rfl) rfl T.g__law_next T.k__law_next (pa_cons (pv 0) (pa_cons pe_int pa_nil))) pe_int (nomark _)) pe_int (pv 3)))
        (pss_cons (ps_set (i := 4) nd rfl (.inl rfl) (pe_callG (ok__law_least T) (hr.mono (by decide)) hg (takes_of rfl rfl rfl rfl) rfl T.g__law_least T.k__law_least (pa_cons (pv 2) (pa_cons (pv 3) pa_nil))))
        (pss_one (ps_ret (pe_ifExp (pt_cmpR op_eq (pe_callG (ok__law_next T) (hr.mono (by decide)) hg (takes_of rfl rfl rfl rfl) rfl T.g__law_next T.k__law_next (pa_cons (pv 0) (pa_cons pe_int pa_nil))) pe_int (nomark _)) (pe_tup (pa_cons (pe_op op_sub pe_int (pe_ix ix_tup (pv 4) pe_int (fun _ _ => rfl))) (pa_cons (pe_ix ix_tup (pv 4) pe_int (fun _ _ => rfl)) pa_nil))) (pv 4)))))))))), ?_⟩
  have p6 : CPow 10 6 := ⟨by decide, by decide, by decide⟩
  have p18 : CPow 10 18 := ⟨by decide, by decide, by decide⟩
  have p17 : CPow 10 17 := ⟨by decide, by decide, by decide⟩
  have p9 : CPow 10 9 := ⟨by decide, by decide, by decide⟩
  refine ⟨_, _, rfl, rfl, p6, _, _, rfl, rfl, p18, _, _, rfl, rfl, p17, _, _, rfl, rfl, p9, sz5 (by simp), fun tp htp => ?_⟩
  have e0 : Exb d H (upd H tp (.lst [V.int 9, V.int 100, V.int (10 ^ (6 : Int).toNat), V.int (10 ^ (18 : Int).toNat), V.int (10 ^ (17 : Int).toNat), V.int (10 ^ (9 : Int).toNat)])) := Exb.of (Evl.Ex.new htp)
  have D0 := hD.ex (Evl.Ex.new (o := .lst [V.int 9, V.int 100, V.int (10 ^ (6 : Int).toNat), V.int (10 ^ (18 : Int).toNat), V.int (10 ^ (17 : Int).toNat), V.int (10 ^ (9 : Int).toNat)]) htp)
  have s0 : SqL K (upd H tp (.lst [V.int 9, V.int 100, V.int (10 ^ (6 : Int).toNat), V.int (10 ^ (18 : Int).toNat), V.int (10 ^ (17 : Int).toNat), V.int (10 ^ (9 : Int).toNat)])) tp [V.int 9, V.int 100, V.int (10 ^ (6 : Int).toNat), V.int (10 ^ (18 : Int).toNat), V.int (10 ^ (17 : Int).toNat), V.int (10 ^ (9 : Int).toNat)] := SqL.of upd_same
  have hit : ∀ v ∈ [V.int 9, V.int 100, V.int (10 ^ (6 : Int).toNat), V.int (10 ^ (18 : Int).toNat), V.int (10 ^ (17 : Int).toNat), V.int (10 ^ (9 : Int).toNat)], ∃ b : Int, v = .int b ∧ 0 < b ∧ b ≤ 1000000000000000000 := by
    intro v hv
    simp only [List.mem_cons, List.not_mem_nil, or_false] at hv
    rcases hv with rfl | rfl | rfl | rfl | rfl | rfl <;> exact ⟨_, rfl, by decide, by decide⟩
  refine ⟨_, rfl, _, rfl, _, rfl, _, _, rfl, d, _, tp, _, rfl, rfl, D0, by omega, s0, by simp, by simp, fun v hv H1 D1 e1 => ?_⟩
  obtain ⟨b, rfl, b0, b1⟩ := hit v hv
  refine ⟨_, _, rfl, d, _, _, rfl, rfl, D1, by omega, by omega, by omega, fun A A0 A1 H2 D2 e2 => ?_⟩
  have s2 := (D0.car (e1.trans e2)).l s0
  refine ⟨_, rfl, _, rfl, _, rfl, _, _, rfl, d, _, tp, _, rfl, rfl, D2, by omega, s2, by simp, by simp, fun v hv H3 D3 e3 => ?_⟩
  obtain ⟨b', rfl, b0', b1'⟩ := hit v hv
  refine ⟨_, _, rfl, d, _, _, rfl, rfl, D3, by omega, by omega, by omega, fun B B0 B1 H4 D4 e4 => ⟨_, _, rfl, rfl, _, _, rfl, ?_⟩⟩
  have e04 : Exb d H H4 := (((e0.trans e1).trans e2).trans e3).trans e4
  have hB : 1 ≤ 1 + B ∧ 1 + B ≤ 1000000000000000000 := by omega
  have hg := great_gt
  have hp1 := great_400
  refine ⟨_, rfl, _, _, rfl, d, _, _, rfl, rfl, D4, by omega, by decide, by decide, fun r r0 r1 H5 D5 e5 => ⟨rfl, _, rfl, iteB (fun _ => ⟨_, rfl, 48, 399, rfl, rfl, by decide, by decide, _, _, rfl, rfl, great_sz, _, _, rfl, great_int, great_len, _, _, rfl, rfl, ?_⟩) (fun _ => ⟨_, rfl, ?_⟩)⟩⟩
  · have hA : 0 ≤ (A + (G399 : Int)) ∧ (A + (G399 : Int)) < 2 * (G399 : Int) := by omega
    refine ⟨_, rfl, _, _, rfl, d, _, _, rfl, rfl, D5, by omega, by decide, by decide, fun r' r'0 r'1 H6 D6 e6 => ⟨rfl, _, rfl, iteB (fun _ => ⟨_, rfl, 48, 399, rfl, rfl, by decide, by decide, _, _, rfl, rfl, great_sz, _, _, rfl, great_int, great_len, _, _, rfl, rfl, ?_⟩) (fun _ => ⟨_, rfl, ?_⟩)⟩⟩
    · have hB2 : 1 ≤ (1 + B + (G399 : Int)) ∧ (1 + B + (G399 : Int)) < 2 * (G399 : Int) := by omega
      refine ⟨_, rfl, _, _, rfl, d, _, _, rfl, rfl, D6, by omega, by decide, by decide, fun r2 r20 r21 H7 D7 e7 => ⟨rfl, _, rfl, iteB (fun _ => ?_) (fun _ => ⟨_, rfl, ?_⟩)⟩⟩
      · have bc : Bd 1500 (1 : Int) := great_bd (by omega) (by omega)
        refine ⟨_, rfl, _, rfl, _, _, rfl, (A + (G399 : Int)), (1 : Int), rfl, rfl, by omega, bc, fun t H8 ht e8 h8 => ?_⟩
        have hi := red_num (a := (A + (G399 : Int))) (b := (1 : Int)) (by omega)
        have hl1 := red_le1 (a := (A + (G399 : Int))) (b := (1 : Int)) (by omega)
        have hl2 := red_le2 (a := (A + (G399 : Int))) (b := (1 : Int)) (by omega)
        have e08 : Exb d H H8 := (((e04.trans e5).trans e6).trans e7).trans (Exb.of e8)
        have D8 := D7.ex e8
        refine ⟨_, rfl, _, _, rfl, d, _, _, rfl, rfl, D8, by omega, by decide, by decide, fun r3 r30 r31 H9 D9 e9 => ⟨rfl, _, rfl, iteB (fun _ => ?_) (fun _ => ⟨_, rfl, ?_⟩)⟩⟩
        · have s9 : SqT K H9 t [.int (red (A + (G399 : Int)) (1 : Int)).1, .int (red (A + (G399 : Int)) (1 : Int)).2] := (D8.car e9).t (SqT.of h8)
          refine ⟨_, rfl, _, _, _, _, rfl, rfl, s9, rfl, _, _, rfl, rfl, _, rfl, _, _, _, _, rfl, rfl, s9, rfl, sz5 (by simp), fun t9 ht9 => ?_⟩
          exact hq _ _ t9 _ (isNum_neg hi) (by omega) (by omega) upd_same ((D9.ex (Evl.Ex.new ht9)).mono (by omega)) ((e08.trans e9).trans (Exb.of (Evl.Ex.new ht9)))
        · have h9 : H9 t = some (.tup [.int (red (A + (G399 : Int)) (1 : Int)).1, .int (red (A + (G399 : Int)) (1 : Int)).2]) := by
            refine e9 _ _ (fun z => ?_) h8
            obtain ⟨c, cells, a, l, u, hd, _⟩ := D7
            rw [z] at ht
            rw [hd] at ht
            cases ht
          exact hq _ _ t _ hi (by omega) (by omega) h9 (D9.mono (by omega)) (e08.trans e9)
      · have bc : Bd 1500 (1 + B + (G399 : Int)) := great_bd (by omega) (by omega)
        refine ⟨_, rfl, _, rfl, _, _, rfl, (A + (G399 : Int)), (1 + B + (G399 : Int)), rfl, rfl, by omega, bc, fun t H8 ht e8 h8 => ?_⟩
        have hi := red_num (a := (A + (G399 : Int))) (b := (1 + B + (G399 : Int))) (by omega)
        have hl1 := red_le1 (a := (A + (G399 : Int))) (b := (1 + B + (G399 : Int))) (by omega)
        have hl2 := red_le2 (a := (A + (G399 : Int))) (b := (1 + B + (G399 : Int))) (by omega)
        have e08 : Exb d H H8 := (((e04.trans e5).trans e6).trans e7).trans (Exb.of e8)
        have D8 := D7.ex e8
        refine ⟨_, rfl, _, _, rfl, d, _, _, rfl, rfl, D8, by omega, by decide, by decide, fun r3 r30 r31 H9 D9 e9 => ⟨rfl, _, rfl, iteB (fun _ => ?_) (fun _ => ⟨_, rfl, ?_⟩)⟩⟩
        · have s9 : SqT K H9 t [.int (red (A + (G399 : Int)) (1 + B + (G399 : Int))).1, .int (red (A + (G399 : Int)) (1 + B + (G399 : Int))).2] := (D8.car e9).t (SqT.of h8)
          refine ⟨_, rfl, _, _, _, _, rfl, rfl, s9, rfl, _, _, rfl, rfl, _, rfl, _, _, _, _, rfl, rfl, s9, rfl, sz5 (by simp), fun t9 ht9 => ?_⟩
          exact hq _ _ t9 _ (isNum_neg hi) (by omega) (by omega) upd_same ((D9.ex (Evl.Ex.new ht9)).mono (by omega)) ((e08.trans e9).trans (Exb.of (Evl.Ex.new ht9)))
        · have h9 : H9 t = some (.tup [.int (red (A + (G399 : Int)) (1 + B + (G399 : Int))).1, .int (red (A + (G399 : Int)) (1 + B + (G399 : Int))).2]) := by
            refine e9 _ _ (fun z => ?_) h8
            obtain ⟨c, cells, a, l, u, hd, _⟩ := D7
            rw [z] at ht
            rw [hd] at ht
            cases ht
          exact hq _ _ t _ hi (by omega) (by omega) h9 (D9.mono (by omega)) (e08.trans e9)
    · have hB2 : 1 ≤ (1 + B) ∧ (1 + B) < 2 * (G399 : Int) := by omega
      refine ⟨_, rfl, _, _, rfl, d, _, _, rfl, rfl, D6, by omega, by decide, by decide, fun r2 r20 r21 H7 D7 e7 => ⟨rfl, _, rfl, iteB (fun _ => ?_) (fun _ => ⟨_, rfl, ?_⟩)⟩⟩
      · have bc : Bd 1500 (1 : Int) := great_bd (by omega) (by omega)
        refine ⟨_, rfl, _, rfl, _, _, rfl, (A + (G399 : Int)), (1 : Int), rfl, rfl, by omega, bc, fun t H8 ht e8 h8 => ?_⟩
        have hi := red_num (a := (A + (G399 : Int))) (b := (1 : Int)) (by omega)
        have hl1 := red_le1 (a := (A + (G399 : Int))) (b := (1 : Int)) (by omega)
        have hl2 := red_le2 (a := (A + (G399 : Int))) (b := (1 : Int)) (by omega)
        have e08 : Exb d H H8 := (((e04.trans e5).trans e6).trans e7).trans (Exb.of e8)
        have D8 := D7.ex e8
        refine ⟨_, rfl, _, _, rfl, d, _, _, rfl, rfl, D8, by omega, by decide, by decide, fun r3 r30 r31 H9 D9 e9 => ⟨rfl, _, rfl, iteB (fun _ => ?_) (fun _ => ⟨_, rfl, ?_⟩)⟩⟩
        · have s9 : SqT K H9 t [.int (red (A + (G399 : Int)) (1 : Int)).1, .int (red (A + (G399 : Int)) (1 : Int)).2] := (D8.car e9).t (SqT.of h8)
          refine ⟨_, rfl, _, _, _, _, rfl, rfl, s9, rfl, _, _, rfl, rfl, _, rfl, _, _, _, _, rfl, rfl, s9, rfl, sz5 (by simp), fun t9 ht9 => ?_⟩
          exact hq _ _ t9 _ (isNum_neg hi) (by omega) (by omega) upd_same ((D9.ex (Evl.Ex.new ht9)).mono (by omega)) ((e08.trans e9).trans (Exb.of (Evl.Ex.new ht9)))
        · have h9 : H9 t = some (.tup [.int (red (A + (G399 : Int)) (1 : Int)).1, .int (red (A + (G399 : Int)) (1 : Int)).2]) := by
            refine e9 _ _ (fun z => ?_) h8
            obtain ⟨c, cells, a, l, u, hd, _⟩ := D7
            rw [z] at ht
            rw [hd] at ht
            cases ht
          exact hq _ _ t _ hi (by omega) (by omega) h9 (D9.mono (by omega)) (e08.trans e9)
      · have bc : Bd 1500 (1 + B) := great_bd (by omega) (by omega)
        refine ⟨_, rfl, _, rfl, _, _, rfl, (A + (G399 : Int)), (1 + B), rfl, rfl, by omega, bc, fun t H8 ht e8 h8 => ?_⟩
        have hi := red_num (a := (A + (G399 : Int))) (b := (1 + B)) (by omega)
        have hl1 := red_le1 (a := (A + (G399 : Int))) (b := (1 + B)) (by omega)
        have hl2 := red_le2 (a := (A + (G399 : Int))) (b := (1 + B)) (by omega)
        have e08 : Exb d H H8 := (((e04.trans e5).trans e6).trans e7).trans (Exb.of e8)
        have D8 := D7.ex e8
        refine ⟨_, rfl, _, _, rfl, d, _, _, rfl, rfl, D8, by omega, by decide, by decide, fun r3 r30 r31 H9 D9 e9 => ⟨rfl, _, rfl, iteB (fun _ => ?_) (fun _ => ⟨_, rfl, ?_⟩)⟩⟩
        · have s9 : SqT K H9 t [.int (red (A + (G399 : Int)) (1 + B)).1, .int (red (A + (G399 : Int)) (1 + B)).2] := (D8.car e9).t (SqT.of h8)
          refine ⟨_, rfl, _, _, _, _, rfl, rfl, s9, rfl, _, _, rfl, rfl, _, rfl, _, _, _, _, rfl, rfl, s9, rfl, sz5 (by simp), fun t9 ht9 => ?_⟩
          exact hq _ _ t9 _ (isNum_neg hi) (by omega) (by omega) upd_same ((D9.ex (Evl.Ex.new ht9)).mono (by omega)) ((e08.trans e9).trans (Exb.of (Evl.Ex.new ht9)))
        · have h9 : H9 t = some (.tup [.int (red (A + (G399 : Int)) (1 + B)).1, .int (red (A + (G399 : Int)) (1 + B)).2]) := by
            refine e9 _ _ (fun z => ?_) h8
            obtain ⟨c, cells, a, l, u, hd, _⟩ := D7
            rw [z] at ht
            rw [hd] at ht
            cases ht
          exact hq _ _ t _ hi (by omega) (by omega) h9 (D9.mono (by omega)) (e08.trans e9)
  · have hA : 0 ≤ A ∧ A < 2 * (G399 : Int) := by omega
    refine ⟨_, rfl, _, _, rfl, d, _, _, rfl, rfl, D5, by omega, by decide, by decide, fun r' r'0 r'1 H6 D6 e6 => ⟨rfl, _, rfl, iteB (fun _ => ⟨_, rfl, 48, 399, rfl, rfl, by decide, by decide, _, _, rfl, rfl, great_sz, _, _, rfl, great_int, great_len, _, _, rfl, rfl, ?_⟩) (fun _ => ⟨_, rfl, ?_⟩)⟩⟩
    · have hB2 : 1 ≤ (1 + B + (G399 : Int)) ∧ (1 + B + (G399 : Int)) < 2 * (G399 : Int) := by omega
      refine ⟨_, rfl, _, _, rfl, d, _, _, rfl, rfl, D6, by omega, by decide, by decide, fun r2 r20 r21 H7 D7 e7 => ⟨rfl, _, rfl, iteB (fun _ => ?_) (fun _ => ⟨_, rfl, ?_⟩)⟩⟩
      · have bc : Bd 1500 (1 : Int) := great_bd (by omega) (by omega)
        refine ⟨_, rfl, _, rfl, _, _, rfl, A, (1 : Int), rfl, rfl, by omega, bc, fun t H8 ht e8 h8 => ?_⟩
        have hi := red_num (a := A) (b := (1 : Int)) (by omega)
        have hl1 := red_le1 (a := A) (b := (1 : Int)) (by omega)
        have hl2 := red_le2 (a := A) (b := (1 : Int)) (by omega)
        have e08 : Exb d H H8 := (((e04.trans e5).trans e6).trans e7).trans (Exb.of e8)
        have D8 := D7.ex e8
        refine ⟨_, rfl, _, _, rfl, d, _, _, rfl, rfl, D8, by omega, by decide, by decide, fun r3 r30 r31 H9 D9 e9 => ⟨rfl, _, rfl, iteB (fun _ => ?_) (fun _ => ⟨_, rfl, ?_⟩)⟩⟩
        · have s9 : SqT K H9 t [.int (red A (1 : Int)).1, .int (red A (1 : Int)).2] := (D8.car e9).t (SqT.of h8)
          refine ⟨_, rfl, _, _, _, _, rfl, rfl, s9, rfl, _, _, rfl, rfl, _, rfl, _, _, _, _, rfl, rfl, s9, rfl, sz5 (by simp), fun t9 ht9 => ?_⟩
          exact hq _ _ t9 _ (isNum_neg hi) (by omega) (by omega) upd_same ((D9.ex (Evl.Ex.new ht9)).mono (by omega)) ((e08.trans e9).trans (Exb.of (Evl.Ex.new ht9)))
        · have h9 : H9 t = some (.tup [.int (red A (1 : Int)).1, .int (red A (1 : Int)).2]) := by
            refine e9 _ _ (fun z => ?_) h8
            obtain ⟨c, cells, a, l, u, hd, _⟩ := D7
            rw [z] at ht
            rw [hd] at ht
            cases ht
          exact hq _ _ t _ hi (by omega) (by omega) h9 (D9.mono (by omega)) (e08.trans e9)
      · have bc : Bd 1500 (1 + B + (G399 : Int)) := great_bd (by omega) (by omega)
        refine ⟨_, rfl, _, rfl, _, _, rfl, A, (1 + B + (G399 : Int)), rfl, rfl, by omega, bc, fun t H8 ht e8 h8 => ?_⟩
        have hi := red_num (a := A) (b := (1 + B + (G399 : Int))) (by omega)
        have hl1 := red_le1 (a := A) (b := (1 + B + (G399 : Int))) (by omega)
        have hl2 := red_le2 (a := A) (b := (1 + B + (G399 : Int))) (by omega)
        have e08 : Exb d H H8 := (((e04.trans e5).trans e6).trans e7).trans (Exb.of e8)
        have D8 := D7.ex e8
        refine ⟨_, rfl, _, _, rfl, d, _, _, rfl, rfl, D8, by omega, by decide, by decide, fun r3 r30 r31 H9 D9 e9 => ⟨rfl, _, rfl, iteB (fun _ => ?_) (fun _ => ⟨_, rfl, ?_⟩)⟩⟩
        · have s9 : SqT K H9 t [.int (red A (1 + B + (G399 : Int))).1, .int (red A (1 + B + (G399 : Int))).2] := (D8.car e9).t (SqT.of h8)
          refine ⟨_, rfl, _, _, _, _, rfl, rfl, s9, rfl, _, _, rfl, rfl, _, rfl, _, _, _, _, rfl, rfl, s9, rfl, sz5 (by simp), fun t9 ht9 => ?_⟩
          exact hq _ _ t9 _ (isNum_neg hi) (by omega) (by omega) upd_same ((D9.ex (Evl.Ex.new ht9)).mono (by omega)) ((e08.trans e9).trans (Exb.of (Evl.Ex.new ht9)))
        · have h9 : H9 t = some (.tup [.int (red A (1 + B + (G399 : Int))).1, .int (red A (1 + B + (G399 : Int))).2]) := by
            refine e9 _ _ (fun z => ?_) h8
            obtain ⟨c, cells, a, l, u, hd, _⟩ := D7
            rw [z] at ht
            rw [hd] at ht
            cases ht
          exact hq _ _ t _ hi (by omega) (by omega) h9 (D9.mono (by omega)) (e08.trans e9)
    · have hB2 : 1 ≤ (1 + B) ∧ (1 + B) < 2 * (G399 : Int) := by omega
      refine ⟨_, rfl, _, _, rfl, d, _, _, rfl, rfl, D6, by omega, by decide, by decide, fun r2 r20 r21 H7 D7 e7 => ⟨rfl, _, rfl, iteB (fun _ => ?_) (fun _ => ⟨_, rfl, ?_⟩)⟩⟩
      · have bc : Bd 1500 (1 : Int) := great_bd (by omega) (by omega)
        refine ⟨_, rfl, _, rfl, _, _, rfl, A, (1 : Int), rfl, rfl, by omega, bc, fun t H8 ht e8 h8 => ?_⟩
        have hi := red_num (a := A) (b := (1 : Int)) (by omega)
        have hl1 := red_le1 (a := A) (b := (1 : Int)) (by omega)
        have hl2 := red_le2 (a := A) (b := (1 : Int)) (by omega)
        have e08 : Exb d H H8 := (((e04.trans e5).trans e6).trans e7).trans (Exb.of e8)
        have D8 := D7.ex e8
        refine ⟨_, rfl, _, _, rfl, d, _, _, rfl, rfl, D8, by omega, by decide, by decide, fun r3 r30 r31 H9 D9 e9 => ⟨rfl, _, rfl, iteB (fun _ => ?_) (fun _ => ⟨_, rfl, ?_⟩)⟩⟩
        · have s9 : SqT K H9 t [.int (red A (1 : Int)).1, .int (red A (1 : Int)).2] := (D8.car e9).t (SqT.of h8)
          refine ⟨_, rfl, _, _, _, _, rfl, rfl, s9, rfl, _, _, rfl, rfl, _, rfl, _, _, _, _, rfl, rfl, s9, rfl, sz5 (by simp), fun t9 ht9 => ?_⟩
          exact hq _ _ t9 _ (isNum_neg hi) (by omega) (by omega) upd_same ((D9.ex (Evl.Ex.new ht9)).mono (by omega)) ((e08.trans e9).trans (Exb.of (Evl.Ex.new ht9)))
        · have h9 : H9 t = some (.tup [.int (red A (1 : Int)).1, .int (red A (1 : Int)).2]) := by
            refine e9 _ _ (fun z => ?_) h8
            obtain ⟨c, cells, a, l, u, hd, _⟩ := D7
            rw [z] at ht
            rw [hd] at ht
            cases ht
          exact hq _ _ t _ hi (by omega) (by omega) h9 (D9.mono (by omega)) (e08.trans e9)
      · have bc : Bd 1500 (1 + B) := great_bd (by omega) (by omega)
        refine ⟨_, rfl, _, rfl, _, _, rfl, A, (1 + B), rfl, rfl, by omega, bc, fun t H8 ht e8 h8 => ?_⟩
        have hi := red_num (a := A) (b := (1 + B)) (by omega)
        have hl1 := red_le1 (a := A) (b := (1 + B)) (by omega)
        have hl2 := red_le2 (a := A) (b := (1 + B)) (by omega)
        have e08 : Exb d H H8 := (((e04.trans e5).trans e6).trans e7).trans (Exb.of e8)
        have D8 := D7.ex e8
        refine ⟨_, rfl, _, _, rfl, d, _, _, rfl, rfl, D8, by omega, by decide, by decide, fun r3 r30 r31 H9 D9 e9 => ⟨rfl, _, rfl, iteB (fun _ => ?_) (fun _ => ⟨_, rfl, ?_⟩)⟩⟩
        · have s9 : SqT K H9 t [.int (red A (1 + B)).1, .int (red A (1 + B)).2] := (D8.car e9).t (SqT.of h8)
          refine ⟨_, rfl, _, _, _, _, rfl, rfl, s9, rfl, _, _, rfl, rfl, _, rfl, _, _, _, _, rfl, rfl, s9, rfl, sz5 (by simp), fun t9 ht9 => ?_⟩
          exact hq _ _ t9 _ (isNum_neg hi) (by omega) (by omega) upd_same ((D9.ex (Evl.Ex.new ht9)).mono (by omega)) ((e08.trans e9).trans (Exb.of (Evl.Ex.new ht9)))
        · have h9 : H9 t = some (.tup [.int (red A (1 + B)).1, .int (red A (1 + B)).2]) := by
            refine e9 _ _ (fun z => ?_) h8
            obtain ⟨c, cells, a, l, u, hd, _⟩ := D7
            rw [z] at ht
            rw [hd] at ht
            cases ht
          exact hq _ _ t _ hi (by omega) (by omega) h9 (D9.mono (by omega)) (e08.trans e9)
theorem ok__law_value (T : Txt P K mg base D) : CallG P w K mg base 4 D._law_value [] (spValue K) := by
  obtain ⟨fd, F, B⟩ := fb__law_value (w := w) (base := base) T
  exact B.pos sp1_len (F.binds (ps := ["draw"]) fun _ _ _ _ _ _ us hl => match us, hl with | [_], _ => rfl)
abbrev N__law_bent : List Str := ["draw", "page", "signs", "at", "sign", "some"]
theorem sc__law_bent : FnScope N__law_bent ["draw", "page"] (defScope s__law_bent) := ⟨rfl, rfl, rfl, by decide +kernel, rfl, by decide +kernel, by decide +kernel⟩
def spBent (K : Frag) : Sp := sp2 fun x y H Q _ => ∃ d n, ∃ l : List Nat, x = .ref d ∧ y = .str (S l) ∧ DrawAt K H d n ∧ n < 2 ^ 48 ∧ l.length ≤ 100000 ∧ okL l ∧ ∀ (r : List Nat) H', r.length ≤ l.length + 2 → okL r → DrawAt K H' d (n + 5) → Exb d H H' → Q (.str (S r)) H'
theorem fb__law_bent (T : Txt P K mg base D) : ∃ fd, Fun K "_law_bent" "_law_bent" s__law_bent D._law_bent fd ∧ FnB P w K mg base 4 D._law_bent fd ["draw", "page"] (spBent K) := by
  obtain ⟨fd, F⟩ := T.f__law_bent
  refine ⟨fd, F, Fun_okB (k := 3) F sc__law_bent fun cdv A outer s H vs Q E hr hg h => ?_⟩
  have nd := sc__law_bent.nd
  obtain ⟨x, y, rfl, d, n, l, rfl, rfl, hD, hn, hl, hk, hq⟩ := h
  refine ⟨_, (pss_cons (ps_set (i := 2) nd rfl (.inl rfl) (pe_op op_catL (pe_callTy (call_list_text rfl) rfl T.n_list (by decide +kernel) (pa_cons pe_str pa_nil)) (pe_lst (pa_cons pe_str (pa_cons pe_str (pa_cons pe_str (pa_cons pe_str pa_nil)))))))
        (pss_cons (ps_par rfl nd (i := 3) (j := 4) rfl rfl (by decide) rfl rfl (pa_cons (pe_callG (ok__law_next T) (hr.mono (by decide)) hg (takes_of rfl rfl rfl rfl) rfl T.g__law_next T.k__law_next (pa_cons (pv 0) (pa_cons (pe_op op_add (pe_callB call_len_str rfl T.n_len (by decide +kernel) (pa_cons (pv 1) pa_nil)) pe_int) pa_nil))) (pa_cons (pe_callG (ok__law_choose T) (hr.mono (by decide)) hg (takes_of rfl rfl rfl rfl) rfl T.g__law_choose T.k__law_choose (pa_cons (pv 0) (pa_cons (pv 2) pa_nil))) pa_nil)) (by rfl))
        (pss_cons (ps_set (i := 5) nd rfl (.inl rfl) (pe_lst (pa_cons (pe_op op_add_str (pe_op op_add_str (pe_slice C8.sl_txt (pv 1) po_none (po_some (pv 3))) (pv 4)) (pe_slice C8.sl_txt (pv 1) (po_some (pv 3)) po_none)) (pa_cons (pe_op op_add_str (pe_op op_add_str (pe_slice C8.sl_txt (pv 1) po_none (po_some (pv 3))) (pv 4)) (pe_slice C8.sl_txt (pv 1) (po_some (pe_op op_add (pv 3) pe_int)) po_none)) (pa_cons (pe_op op_add_str (pe_slice C8.sl_txt (pv 1) po_none (po_some (pv 3))) (pe_slice C8.sl_txt (pv 1) (po_some (pe_op op_add (pv 3) pe_int)) po_none)) (pa_cons (pe_revS (pv 1)) pa_nil))))))
        (pss_cons (ps_set (i := 5) nd rfl (.inl rfl) (pe_op op_catL (pv 5) (pe_lst (pa_cons (pe_op op_add_str pe_str (pv 1)) (pa_cons (pe_op op_add_str pe_str (pv 1)) (pa_cons (pe_op op_add_str (pv 1) pe_str) (pa_cons (pe_op op_add_str (pv 1) pe_str) pa_nil)))))))
        (pss_one (ps_ret (pe_callG (ok__law_choose T) (hr.mono (by decide)) hg (takes_of rfl rfl rfl rfl) rfl T.g__law_choose T.k__law_choose (pa_cons (pv 0) (pa_cons (pe_op op_catL (pv 5) (pe_lst (pa_cons (pe_slice C8.sl_txt (pv 1) po_none (po_some (pv 3))) (pa_cons (pe_slice C8.sl_txt (pv 1) (po_some (pv 3)) po_none) (pa_cons (pe_op op_add_str pe_str (pv 1)) pa_nil))))) pa_nil))))))))), ?_⟩
  have hz : (S l).length ≤ sizeLine := by rw [S_len, sizeLine_eq]; omega
  have sl : ((S l).length : Int) = (l.length : Int) := by rw [S_len]
  have ng : ∀ (x : Str) (m : Nat), Gs m x → ∀ v ∈ ([V.str x] : List V), ∃ r : List Nat, v = .str (S r) ∧ r.length ≤ m ∧ okL r := fun x m h v hv => by
    obtain ⟨r, rfl, h1, h2⟩ := h
    exact ⟨r, List.mem_singleton.mp hv, h1, h2⟩
  refine ⟨_, rfl, by rw [sizeLine_eq]; decide, fun p1 hp1 => ⟨sz5 (by simp), fun p2 hp2 => ⟨p1, p2, ((Str.ofString "0123456789-+/ .ae_").cps.toList.map fun c => V.str ⟨#[c]⟩), [V.str "\n", V.str "//", V.str "/1", V.str "00"], rfl, rfl, (Car.ex (Evl.Ex.new hp2)).l (SqL.of upd_same), SqL.of upd_same, by rw [sizeLine_eq]; decide, fun p3 hp3 => ?_⟩⟩⟩
  have c1 := Evl.Ex.new (o := .lst ((Str.ofString "0123456789-+/ .ae_").cps.toList.map fun c => V.str ⟨#[c]⟩)) hp1
  have c2 := Evl.Ex.new (o := .lst [V.str "\n", V.str "//", V.str "/1", V.str "00"]) hp2
  have c3 := Evl.Ex.new (o := .lst (((Str.ofString "0123456789-+/ .ae_").cps.toList.map fun c => V.str ⟨#[c]⟩) ++ [V.str "\n", V.str "//", V.str "/1", V.str "00"])) hp3
  have e0 := (c1.trans c2).trans c3
  have D0 := hD.ex e0
  have hsg : ∀ v ∈ (((Str.ofString "0123456789-+/ .ae_").cps.toList.map fun c => V.str ⟨#[c]⟩) ++ [V.str "\n", V.str "//", V.str "/1", V.str "00"]), ∃ r : List Nat, v = .str (S r) ∧ r.length ≤ 2 ∧ okL r := by
    intro v hv
    rcases List.mem_append.mp hv with hv | hv
    · obtain ⟨c, hc, rfl⟩ := List.mem_map.mp hv
      refine ⟨[c], rfl, by simp, fun x hx => ?_⟩
      rw [List.mem_singleton.mp hx]
      have : ∀ c ∈ (Str.ofString "0123456789-+/ .ae_").cps.toList, c < 1114112 := by decide
      exact this c hc
    · simp only [List.mem_cons, List.not_mem_nil, or_false] at hv
      rcases hv with rfl | rfl | rfl | rfl
      · exact ⟨[10], rfl, by simp, by unfold okL; decide⟩
      · exact ⟨[47, 47], rfl, by simp, by unfold okL; decide⟩
      · exact ⟨[47, 49], rfl, by simp, by unfold okL; decide⟩
      · exact ⟨[48, 48], rfl, by simp, by unfold okL; decide⟩
  refine ⟨_, rfl, _, rfl, _, rfl, hz, _, _, rfl, rfl, _, _, rfl, d, n, _, rfl, rfl, D0, by omega, by omega, by rw [sl]; omega, fun i i0 i1 H1 D1 e1 => ?_⟩
  rw [sl] at i1
  refine ⟨_, rfl, _, rfl, _, _, rfl, d, _, p3, _, rfl, rfl, D1, by omega, (D0.car e1).l (SqL.of upd_same), by simp, by simp; decide, fun v hv H2 D2 e2 => ?_⟩
  obtain ⟨sg, rfl, hs1, hs2⟩ := hsg v hv
  have gt := Gs.to hk i0
  have gf := Gs.from hk i0
  have gf1 := Gs.from hk (i := i + 1) (by omega)
  have gl := Gs.of hk
  have gs : Gs 2 (S sg) := ⟨sg, rfl, hs1, hs2⟩
  have g1 := (gt.app gs).app gf
  have g2 := (gt.app gs).app gf1
  have g3 := gt.app gf1
  refine ⟨_, _, rfl, ?_⟩
  refine ⟨_, rfl, _, rfl, _, rfl, S l, rfl, hz, _, rfl, _, _, rfl, rfl, by have := (gt.app gs).len; rw [Str.length_append] at this; rw [sizeLine_eq]; omega, _, rfl, _, rfl, _, rfl, S l, rfl, hz, _, _, rfl, rfl, by have := g1.len; rw [Str.length_append] at this; rw [sizeLine_eq]; omega, _, rfl, _, rfl, _, rfl, S l, rfl, hz, _, rfl, _, _, rfl, rfl, by have := (gt.app gs).len; rw [Str.length_append] at this; rw [sizeLine_eq]; omega, _, rfl, _, rfl, _, _, rfl, rfl, _, rfl, S l, rfl, hz, _, _, rfl, rfl, by have := g2.len; rw [Str.length_append] at this; rw [sizeLine_eq]; omega, _, rfl, _, rfl, _, rfl, S l, rfl, hz, _, rfl, _, rfl, _, _, rfl, rfl, _, rfl, S l, rfl, hz, _, _, rfl, rfl, by have := g3.len; rw [Str.length_append] at this; rw [sizeLine_eq]; omega, _, rfl, S l, rfl, hz, fun rv rv1 rv2 => ⟨sz5 (by simp), fun p5 hp5 => ?_⟩⟩
  have grv : Gs l.length rv := ⟨rv.cps.toList, (S_tl rv).symm, by rw [S_len] at rv1; rw [Array.length_toList]; exact rv1, fun c hc => hk c (by simpa using rv2 c hc)⟩
  have tgm : Gs 1 (Str.ofString "-") := ⟨[45], rfl, by simp, by unfold okL; decide⟩
  have gm := tgm.app gl
  have tg0 : Gs 1 (Str.ofString "0") := ⟨[48], rfl, by simp, by unfold okL; decide⟩
  have g0 := tg0.app gl
  have tgx : Gs 2 (Str.ofString "/1") := ⟨[47, 49], rfl, by simp, by unfold okL; decide⟩
  have gx := gl.app tgx
  have tgy : Gs 2 (Str.ofString "/2") := ⟨[47, 50], rfl, by simp, by unfold okL; decide⟩
  have gy := gl.app tgy
  have tgb : Gs 1 (Str.ofString " ") := ⟨[32], rfl, by simp, by unfold okL; decide⟩
  have gb := tgb.app gl
  refine ⟨_, rfl, _, rfl, _, _, rfl, rfl, by have := gm.len; rw [Str.length_append] at this; rw [sizeLine_eq]; omega, _, rfl, _, _, rfl, rfl, by have := g0.len; rw [Str.length_append] at this; rw [sizeLine_eq]; omega, _, rfl, _, _, rfl, rfl, by have := gx.len; rw [Str.length_append] at this; rw [sizeLine_eq]; omega, _, rfl, _, _, rfl, rfl, by have := gy.len; rw [Str.length_append] at this; rw [sizeLine_eq]; omega, sz5 (by simp), fun p6 hp6 => ⟨p5, p6, _, _, rfl, rfl, (Car.ex (Evl.Ex.new hp6)).l (SqL.of upd_same), SqL.of upd_same, sz5 (by simp), fun p7 hp7 => ?_⟩⟩
  refine ⟨_, rfl, _, rfl, _, rfl, _, rfl, _, rfl, S l, rfl, hz, _, rfl, _, rfl, _, rfl, S l, rfl, hz, _, rfl, _, _, rfl, rfl, by have := gb.len; rw [Str.length_append] at this; rw [sizeLine_eq]; omega, sz5 (by simp), fun p8 hp8 => ⟨p7, p8, _, _, rfl, rfl, (Car.ex (Evl.Ex.new hp8)).l (SqL.of upd_same), SqL.of upd_same, sz5 (by simp), fun p9 hp9 => ?_⟩⟩
  have f5 := Evl.Ex.new (o := .lst [V.str (Txt.slice (S l) none (some i) ++ S sg ++ Txt.slice (S l) (some i) none), V.str (Txt.slice (S l) none (some i) ++ S sg ++ Txt.slice (S l) (some (i + 1)) none), V.str (Txt.slice (S l) none (some i) ++ Txt.slice (S l) (some (i + 1)) none), V.str rv]) hp5
  have f6 := Evl.Ex.new (o := .lst [V.str (Str.ofString "-" ++ S l), V.str (Str.ofString "0" ++ S l), V.str (S l ++ Str.ofString "/1"), V.str (S l ++ Str.ofString "/2")]) hp6
  have f7 := Evl.Ex.new (o := .lst ([V.str (Txt.slice (S l) none (some i) ++ S sg ++ Txt.slice (S l) (some i) none), V.str (Txt.slice (S l) none (some i) ++ S sg ++ Txt.slice (S l) (some (i + 1)) none), V.str (Txt.slice (S l) none (some i) ++ Txt.slice (S l) (some (i + 1)) none), V.str rv] ++ [V.str (Str.ofString "-" ++ S l), V.str (Str.ofString "0" ++ S l), V.str (S l ++ Str.ofString "/1"), V.str (S l ++ Str.ofString "/2")])) hp7
  have f8 := Evl.Ex.new (o := .lst [V.str (Txt.slice (S l) none (some i)), V.str (Txt.slice (S l) (some i) none), V.str (Str.ofString " " ++ S l)]) hp8
  have f9 := Evl.Ex.new (o := .lst (([V.str (Txt.slice (S l) none (some i) ++ S sg ++ Txt.slice (S l) (some i) none), V.str (Txt.slice (S l) none (some i) ++ S sg ++ Txt.slice (S l) (some (i + 1)) none), V.str (Txt.slice (S l) none (some i) ++ Txt.slice (S l) (some (i + 1)) none), V.str rv] ++ [V.str (Str.ofString "-" ++ S l), V.str (Str.ofString "0" ++ S l), V.str (S l ++ Str.ofString "/1"), V.str (S l ++ Str.ofString "/2")]) ++ [V.str (Txt.slice (S l) none (some i)), V.str (Txt.slice (S l) (some i) none), V.str (Str.ofString " " ++ S l)])) hp9
  have f := f5.trans (f6.trans (f7.trans (f8.trans f9)))
  refine ⟨_, _, rfl, d, _, p9, _, rfl, rfl, D2.ex f, by omega, SqL.of upd_same, by simp, by simp, fun v hv' H' D' e' => ?_⟩
  have fin : ∀ (m : Nat) (x : Str), Gs m x → m ≤ l.length + 2 → v = .str x → Q v H' := fun m x g hm e => by
    obtain ⟨r, rfl, h1, h2⟩ := g
    subst e
    exact hq r H' (by omega) h2 (D'.mono (by omega)) ((((Exb.of e0).trans e1).trans e2).trans ((Exb.of f).trans e'))
  simp only [List.mem_append, List.mem_cons, List.not_mem_nil, or_false] at hv'
  rcases hv' with ((e | e | e | e) | (e | e | e | e)) | (e | e | e)
  · exact fin _ _ g1 (by omega) e
  · exact fin _ _ g2 (by omega) e
  · exact fin _ _ g3 (by omega) e
  · exact fin _ _ grv (by omega) e
  · exact fin _ _ gm (by omega) e
  · exact fin _ _ g0 (by omega) e
  · exact fin _ _ gx (by omega) e
  · exact fin _ _ gy (by omega) e
  · exact fin _ _ gt (by omega) e
  · exact fin _ _ gf (by omega) e
  · exact fin _ _ gb (by omega) e
theorem ok__law_bent (T : Txt P K mg base D) : CallG P w K mg base 4 D._law_bent [] (spBent K) := by
  obtain ⟨fd, F, B⟩ := fb__law_bent (w := w) (base := base) T
  exact B.pos sp2_len (F.binds (ps := ["draw", "page"]) fun _ _ _ _ _ _ us hl => match us, hl with | [_, _], _ => rfl)
abbrev N_number_of : List Str := ["word", "sign", "digits", "above", "slash", "below", "first", "second", "found"]
theorem sc_number_of : FnScope N_number_of ["word"] (defScope s_number_of) := ⟨rfl, rfl, rfl, by decide +kernel, rfl, by decide +kernel, by decide +kernel⟩
theorem fb_number_of (T : Txt P K mg base D) : ∃ fd, Fun K "number_of" "number_of" s_number_of D.number_of fd ∧ FnB P w K mg base 5 D.number_of fd ["word"] spNumOf := by
  obtain ⟨fd, F⟩ := T.f_number_of
  refine ⟨fd, F, Fun_okB (k := 4) F sc_number_of fun cdv A outer s H vs Q E hr hg h => ?_⟩
  have nd := sc_number_of.nd
  obtain ⟨x, rfl, l, rfl, hl, qn, qs⟩ := h
  refine ⟨_, (pss_cons (ps_asg (pe_ifExp (pt_val (pe_m1 PySem.F.slot_str_startswith PySem.F.type_str_startswith mt_startswith (pv 0) pe_str)) (pe_tup (pa_cons (pe_un un_neg pe_int) (pa_cons (pe_slice C8.sl_txt (pv 0) (po_some pe_int) po_none) pa_nil))) (pe_tup (pa_cons pe_int (pa_cons (pv 0) pa_nil)))) (pg_tup rfl (pgs_cons (pg_name (i := 1) nd rfl (.inl rfl)) (pgs_cons (pg_name (i := 2) nd rfl (.inl rfl)) pgs_nil))))
        (pss_cons (ps_asg (pe_m1 PySem.F.slot_str_partition PySem.F.type_str_partition mt_partition (pv 2) pe_str) (pg_tup rfl (pgs_cons (pg_name (i := 3) nd rfl (.inl rfl)) (pgs_cons (pg_name (i := 4) nd rfl (.inl rfl)) (pgs_cons (pg_name (i := 5) nd rfl (.inl rfl)) pgs_nil)))))
        (pss_cons (ps_par rfl nd (i := 6) (j := 7) rfl rfl (by decide) rfl rfl (pa_cons (pe_callG (ok_integer_of T) (hr.mono (by decide)) hg (takes_of rfl rfl rfl rfl) rfl T.g_integer_of T.k_integer_of (pa_cons (pv 3) pa_nil)) (pa_cons (pe_ifExp (pt_cmpR op_ne (pv 4) pe_str (nomark _)) (pe_callG (ok_integer_of T) (hr.mono (by decide)) hg (takes_of rfl rfl rfl rfl) rfl T.g_integer_of T.k_integer_of (pa_cons (pv 5) pa_nil)) pe_int) pa_nil)) (by rfl))
        (pss_cons (ps_if (PW.pt (pw_or (pt_cmpR op_isN (pv 6) pe_non (nomark _)) (pw_or (pt_cmpR op_isN (pv 7) pe_non (nomark _)) (pw_or1 (pt_not (pt_val (pe_callG (ok_is_number T) (hr.mono (by decide)) hg (takes_of rfl rfl rfl rfl) rfl T.g_is_number T.k_is_number (pa_cons (pe_tup (pa_cons (pe_op op_mulW (pv 1) (pv 6)) (pa_cons (pv 7) pa_nil))) pa_nil)))))))) (pss_one (ps_ret pe_non)) pss_nil)
        (pss_cons (ps_set (i := 8) nd rfl (.inl rfl) (pe_tup (pa_cons (pe_op op_mulW (pv 1) (pv 6)) (pa_cons (pv 7) pa_nil))))
        (pss_one (ps_ret (pe_ifExp (pt_cmpR op_eq (pe_callG (ok_number_text T) (hr.mono (by decide)) hg (takes_of rfl rfl rfl rfl) rfl T.g_number_text T.k_number_text (pa_cons (pv 8) pa_nil)) (pv 0) (nomark _)) (pv 8) pe_non)))))))), ?_⟩
  have hz : (S l).length ≤ sizeLine := by rw [S_len, sizeLine_eq]; omega
  have hrl := rest_len l
  refine ⟨_, rfl, ⟨_, rfl⟩, _, _, rfl, rfl, _, rfl, ?_⟩
  rw [starts_minus]
  cases hneg : negOf l with
  | true =>
    have er : Rm.restOf l = l.drop 1 := by unfold Rm.restOf; rw [if_pos hneg]
    refine iteT ⟨1, rfl, _, rfl, 1, rfl, S l, rfl, hz, sz5 (by simp), fun t1 ht1 => ?_⟩
    have es : Txt.slice (S l) (some 1) none = S (Rm.restOf l) := by rw [er]; exact slice_from (a := l) (i := 1) (by decide)
    rw [es]
    have e1 := Evl.Ex.new (o := .tup [.int (-1), .str (S (Rm.restOf l))]) ht1
    refine ⟨_, _, rfl, SqT.of upd_same, rfl, _, _, rfl, _, _, rfl, rfl, ?_⟩
    refine ⟨_, rfl, ⟨_, rfl⟩, S (Rm.restOf l), Str.ofString "/", rfl, rfl, by decide, by rw [S_len, sizeLine_eq]; omega, fun t2 ht2 => ?_⟩
    cases hp : TL.par [47] [] (Rm.restOf l) with
    | none =>
      rw [part_none hp]
      have e2 := Evl.Ex.new (o := .tup [.str (S (Rm.restOf l)), .str (S []), .str (S [])]) ht2
      refine ⟨_, _, rfl, SqT.of upd_same, rfl, _, _, rfl, _, _, rfl, _, _, rfl, rfl, ?_⟩
      refine ⟨_, rfl, _, rfl, (Rm.restOf l), rfl, by omega, fun H3 e3 => ?_⟩
      refine ⟨_, rfl, rfl, _, rfl, iteB (fun c => absurd (show (!decide (V.str (S []) = V.str (Str.ofString ""))) = true from c) (by decide)) (fun _ => ⟨_, _, rfl, ?_⟩)⟩
      cases h1 : intOf (Rm.restOf l) with
      | none =>
        rw [intV_none h1]
        exact ⟨_, rfl, rfl, _, rfl, iteT (qn (by unfold Rm.numOf; rw [hneg]; simp only [hp, Option.getD_some, Option.getD_none, Option.isSome_some, Option.isSome_none, if_true, Bool.false_eq_true, if_false, h1]) _ ((e1.trans e2).trans e3))⟩
      | some a =>
        rw [intV_some h1]
        have ba := intOf_bd h1
        have bb : Bd 1396 ((1 : Nat) : Int) := Bd.mono (m := 1) (by unfold Bd; decide) (by decide)
        have mul : ∀ i : Int, i = (-1 : Int) * (a : Int) → i = sgI true a := fun i e => e.trans (sg_mul true a)
        have hm : CMulW (-1 : Int) (a : Int) := Bd.mulW (m := 2) (by unfold Bd; decide) ba
        have en : Rm.numOf l = if (1 ≤ 1 ∧ Nat.gcd a 1 = 1) ∧ numT true a 1 = l then some (sgI true a, ((1 : Nat) : Int)) else none := by
          unfold Rm.numOf
          rw [hneg]
          simp only [hp, Option.getD_some, Option.getD_none, Option.isSome_some, Option.isSome_none, if_true, Bool.false_eq_true, if_false, h1]
          try rfl
        refine ⟨_, rfl, rfl, _, rfl, iteF ⟨_, rfl, rfl, _, rfl, iteF ?_⟩⟩
        refine ⟨_, rfl, _, rfl, _, _, rfl, rfl, hm, _, rfl, sz5 (by simp), fun t ht => ?_⟩
        have hmul : (-1 : Int) * (a : Int) = sgI true a := sg_mul true a
        have et := ((e1.trans e2).trans e3).trans (Evl.Ex.new (o := .tup [.int ((-1 : Int) * (a : Int)), .int ((1 : Nat) : Int)]) ht)
        have d1 : Dp K (upd H3 t (.tup [.int ((-1 : Int) * (a : Int)), .int ((1 : Nat) : Int)])) (.ref t) (.tuple [.int (sgI true a), .int ((1 : Nat) : Int)]) := by rw [← hmul]; exact Dp.tupN (K := K) ht (.cons (.int _) (.cons (.int _) .nil))
        refine ⟨_, rfl, _, d1, fun H5 e5 => ⟨_, rfl, iteB (fun c => ?_) (fun c => ?_)⟩⟩
        · have c' : isNumD (.tuple [.int (sgI true a), .int ((1 : Nat) : Int)]) = false := by simpa using c
          have hn : ¬ IsNum (sgI true a) ((1 : Nat) : Int) := fun z => by rw [isNumD_is z] at c'; cases c'
          exact qn (by rw [en, if_neg fun z => hn ((isNum_sg true a 1).mpr z.1)]) _ (et.trans e5)
        · have c' : isNumD (.tuple [.int (sgI true a), .int ((1 : Nat) : Int)]) = true := by simpa using c
          have hn : IsNum (sgI true a) ((1 : Nat) : Int) := of_decide_eq_true c'
          refine ⟨_, rfl, _, rfl, _, _, rfl, rfl, hm, _, rfl, sz5 (by simp), fun t2 ht2 => ?_⟩
          have e6 := et.trans e5
          have e7 := e6.trans (Evl.Ex.new (o := .tup [.int ((-1 : Int) * (a : Int)), .int ((1 : Nat) : Int)]) ht2)
          have d2 : Dp K (upd H5 t2 (.tup [.int ((-1 : Int) * (a : Int)), .int ((1 : Nat) : Int)])) (.ref t2) (.tuple [.int (sgI true a), .int ((1 : Nat) : Int)]) := by rw [← hmul]; exact Dp.tupN (K := K) ht2 (.cons (.int _) (.cons (.int _) .nil))
          refine ⟨_, rfl, _, rfl, _, d2, fun z => absurd hn (fun y => by rw [isNumD_is y] at z; cases z), fun p' q' ep i => ?_⟩
          cases ep
          refine ⟨((sgI_bd true ba).mono (show 1396 ≤ 1920 by decide)).log (by decide), (bb.mono (show 1396 ≤ 1920 by decide)).log (by decide), fun H7 e8 => ⟨_, rfl, rfl, _, rfl, ?_⟩⟩
          have hlt := ntext_S true a 1
          rw [hlt]
          refine iteB (fun c2 => ?_) (fun c2 => ?_)
          · have hl2 : numT true a 1 = l := S_inj (V.str.inj (of_decide_eq_true c2))
            refine ⟨_, rfl, qs _ _ (by rw [en, if_pos ⟨(isNum_sg true a 1).mp hn, hl2⟩]) t2 H7 (exn e6 ht2) (e7.trans e8) (e8 _ _ (by rw [upd_same]; show some (HO.tup [V.int ((-1 : Int) * (a : Int)), V.int ((1 : Nat) : Int)]) = _; rw [hmul]))⟩
          · have hl2 : ¬ numT true a 1 = l := fun z => of_decide_eq_false c2 (by rw [z])
            exact qn (by rw [en, if_neg fun z => hl2 z.2]) _ (e7.trans e8)
    | some pq =>
      obtain ⟨p, q⟩ := pq
      rw [part_some hp]
      have e2 := Evl.Ex.new (o := .tup [.str (S p), .str (S [47]), .str (S q)]) ht2
      have hpl := par_len hp
      refine ⟨_, _, rfl, SqT.of upd_same, rfl, _, _, rfl, _, _, rfl, _, _, rfl, rfl, ?_⟩
      refine ⟨_, rfl, _, rfl, p, rfl, by omega, fun H3 e3 => ?_⟩
      refine ⟨_, rfl, rfl, _, rfl, iteB (fun _ => ?_) (fun c => absurd (show (!decide (V.str (S [47]) = V.str (Str.ofString ""))) = false from c) (by decide))⟩
      refine ⟨_, rfl, _, rfl, q, rfl, by omega, fun H4 e4 => ⟨_, _, rfl, ?_⟩⟩
      cases h1 : intOf p with
      | none =>
        rw [intV_none h1]
        exact ⟨_, rfl, rfl, _, rfl, iteT (qn (by unfold Rm.numOf; rw [hneg]; simp only [hp, Option.getD_some, Option.getD_none, Option.isSome_some, Option.isSome_none, if_true, Bool.false_eq_true, if_false, h1]) _ ((e1.trans e2).trans (e3.trans e4)))⟩
      | some a =>
        rw [intV_some h1]
        cases h2 : intOf q with
        | none =>
          rw [intV_none h2]
          exact ⟨_, rfl, rfl, _, rfl, iteF ⟨_, rfl, rfl, _, rfl, iteT (qn (by unfold Rm.numOf; rw [hneg]; simp only [hp, Option.getD_some, Option.getD_none, Option.isSome_some, Option.isSome_none, if_true, Bool.false_eq_true, if_false, h1, h2]) _ ((e1.trans e2).trans (e3.trans e4)))⟩⟩
        | some b =>
          rw [intV_some h2]
          have ba := intOf_bd h1
          have bb := intOf_bd h2
          have mul : ∀ i : Int, i = (-1 : Int) * (a : Int) → i = sgI true a := fun i e => e.trans (sg_mul true a)
          have hm : CMulW (-1 : Int) (a : Int) := Bd.mulW (m := 2) (by unfold Bd; decide) ba
          have en : Rm.numOf l = if (1 ≤ b ∧ Nat.gcd a b = 1) ∧ numT true a b = l then some (sgI true a, ((b : Nat) : Int)) else none := by
            unfold Rm.numOf
            rw [hneg]
            simp only [hp, Option.getD_some, Option.getD_none, Option.isSome_some, Option.isSome_none, if_true, Bool.false_eq_true, if_false, h1, h2]
            try rfl
          refine ⟨_, rfl, rfl, _, rfl, iteF ⟨_, rfl, rfl, _, rfl, iteF ?_⟩⟩
          refine ⟨_, rfl, _, rfl, _, _, rfl, rfl, hm, _, rfl, sz5 (by simp), fun t ht => ?_⟩
          have hmul : (-1 : Int) * (a : Int) = sgI true a := sg_mul true a
          have et := ((e1.trans e2).trans (e3.trans e4)).trans (Evl.Ex.new (o := .tup [.int ((-1 : Int) * (a : Int)), .int ((b : Nat) : Int)]) ht)
          have d1 : Dp K (upd H4 t (.tup [.int ((-1 : Int) * (a : Int)), .int ((b : Nat) : Int)])) (.ref t) (.tuple [.int (sgI true a), .int ((b : Nat) : Int)]) := by rw [← hmul]; exact Dp.tupN (K := K) ht (.cons (.int _) (.cons (.int _) .nil))
          refine ⟨_, rfl, _, d1, fun H5 e5 => ⟨_, rfl, iteB (fun c => ?_) (fun c => ?_)⟩⟩
          · have c' : isNumD (.tuple [.int (sgI true a), .int ((b : Nat) : Int)]) = false := by simpa using c
            have hn : ¬ IsNum (sgI true a) ((b : Nat) : Int) := fun z => by rw [isNumD_is z] at c'; cases c'
            exact qn (by rw [en, if_neg fun z => hn ((isNum_sg true a b).mpr z.1)]) _ (et.trans e5)
          · have c' : isNumD (.tuple [.int (sgI true a), .int ((b : Nat) : Int)]) = true := by simpa using c
            have hn : IsNum (sgI true a) ((b : Nat) : Int) := of_decide_eq_true c'
            refine ⟨_, rfl, _, rfl, _, _, rfl, rfl, hm, _, rfl, sz5 (by simp), fun t2 ht2 => ?_⟩
            have e6 := et.trans e5
            have e7 := e6.trans (Evl.Ex.new (o := .tup [.int ((-1 : Int) * (a : Int)), .int ((b : Nat) : Int)]) ht2)
            have d2 : Dp K (upd H5 t2 (.tup [.int ((-1 : Int) * (a : Int)), .int ((b : Nat) : Int)])) (.ref t2) (.tuple [.int (sgI true a), .int ((b : Nat) : Int)]) := by rw [← hmul]; exact Dp.tupN (K := K) ht2 (.cons (.int _) (.cons (.int _) .nil))
            refine ⟨_, rfl, _, rfl, _, d2, fun z => absurd hn (fun y => by rw [isNumD_is y] at z; cases z), fun p' q' ep i => ?_⟩
            cases ep
            refine ⟨((sgI_bd true ba).mono (show 1396 ≤ 1920 by decide)).log (by decide), (bb.mono (show 1396 ≤ 1920 by decide)).log (by decide), fun H7 e8 => ⟨_, rfl, rfl, _, rfl, ?_⟩⟩
            have hlt := ntext_S true a b
            rw [hlt]
            refine iteB (fun c2 => ?_) (fun c2 => ?_)
            · have hl2 : numT true a b = l := S_inj (V.str.inj (of_decide_eq_true c2))
              refine ⟨_, rfl, qs _ _ (by rw [en, if_pos ⟨(isNum_sg true a b).mp hn, hl2⟩]) t2 H7 (exn e6 ht2) (e7.trans e8) (e8 _ _ (by rw [upd_same]; show some (HO.tup [V.int ((-1 : Int) * (a : Int)), V.int ((b : Nat) : Int)]) = _; rw [hmul]))⟩
            · have hl2 : ¬ numT true a b = l := fun z => of_decide_eq_false c2 (by rw [z])
              exact qn (by rw [en, if_neg fun z => hl2 z.2]) _ (e7.trans e8)
  | false =>
    have er : Rm.restOf l = l := by unfold Rm.restOf; rw [if_neg (by rw [hneg]; simp)]
    refine iteF ⟨_, rfl, sz5 (by simp), fun t1 ht1 => ?_⟩
    have e1 := Evl.Ex.new (o := .tup [.int 1, .str (S l)]) ht1
    refine ⟨_, _, rfl, SqT.of upd_same, rfl, _, _, rfl, _, _, rfl, rfl, ?_⟩
    have hzr := hz
    refine ⟨_, rfl, ⟨_, rfl⟩, S l, Str.ofString "/", rfl, rfl, by decide, by rw [S_len, sizeLine_eq]; omega, fun t2 ht2 => ?_⟩
    have el : Txt.partition (S l) (Str.ofString "/") = Txt.partition (S (Rm.restOf l)) (Str.ofString "/") := by rw [er]
    rw [el]
    cases hp : TL.par [47] [] (Rm.restOf l) with
    | none =>
      rw [part_none hp]
      have e2 := Evl.Ex.new (o := .tup [.str (S (Rm.restOf l)), .str (S []), .str (S [])]) ht2
      refine ⟨_, _, rfl, SqT.of upd_same, rfl, _, _, rfl, _, _, rfl, _, _, rfl, rfl, ?_⟩
      refine ⟨_, rfl, _, rfl, (Rm.restOf l), rfl, by omega, fun H3 e3 => ?_⟩
      refine ⟨_, rfl, rfl, _, rfl, iteB (fun c => absurd (show (!decide (V.str (S []) = V.str (Str.ofString ""))) = true from c) (by decide)) (fun _ => ⟨_, _, rfl, ?_⟩)⟩
      cases h1 : intOf (Rm.restOf l) with
      | none =>
        rw [intV_none h1]
        exact ⟨_, rfl, rfl, _, rfl, iteT (qn (by unfold Rm.numOf; rw [hneg]; simp only [hp, Option.getD_some, Option.getD_none, Option.isSome_some, Option.isSome_none, if_true, Bool.false_eq_true, if_false, h1]) _ ((e1.trans e2).trans e3))⟩
      | some a =>
        rw [intV_some h1]
        have ba := intOf_bd h1
        have bb : Bd 1396 ((1 : Nat) : Int) := Bd.mono (m := 1) (by unfold Bd; decide) (by decide)
        have mul : ∀ i : Int, i = (1 : Int) * (a : Int) → i = sgI false a := fun i e => e.trans (sg_mul false a)
        have hm : CMulW (1 : Int) (a : Int) := Bd.mulW (m := 2) (by unfold Bd; decide) ba
        have en : Rm.numOf l = if (1 ≤ 1 ∧ Nat.gcd a 1 = 1) ∧ numT false a 1 = l then some (sgI false a, ((1 : Nat) : Int)) else none := by
          unfold Rm.numOf
          rw [hneg]
          simp only [hp, Option.getD_some, Option.getD_none, Option.isSome_some, Option.isSome_none, if_true, Bool.false_eq_true, if_false, h1]
          try rfl
        refine ⟨_, rfl, rfl, _, rfl, iteF ⟨_, rfl, rfl, _, rfl, iteF ?_⟩⟩
        refine ⟨_, rfl, _, rfl, _, _, rfl, rfl, hm, _, rfl, sz5 (by simp), fun t ht => ?_⟩
        have hmul : (1 : Int) * (a : Int) = sgI false a := sg_mul false a
        have et := ((e1.trans e2).trans e3).trans (Evl.Ex.new (o := .tup [.int ((1 : Int) * (a : Int)), .int ((1 : Nat) : Int)]) ht)
        have d1 : Dp K (upd H3 t (.tup [.int ((1 : Int) * (a : Int)), .int ((1 : Nat) : Int)])) (.ref t) (.tuple [.int (sgI false a), .int ((1 : Nat) : Int)]) := by rw [← hmul]; exact Dp.tupN (K := K) ht (.cons (.int _) (.cons (.int _) .nil))
        refine ⟨_, rfl, _, d1, fun H5 e5 => ⟨_, rfl, iteB (fun c => ?_) (fun c => ?_)⟩⟩
        · have c' : isNumD (.tuple [.int (sgI false a), .int ((1 : Nat) : Int)]) = false := by simpa using c
          have hn : ¬ IsNum (sgI false a) ((1 : Nat) : Int) := fun z => by rw [isNumD_is z] at c'; cases c'
          exact qn (by rw [en, if_neg fun z => hn ((isNum_sg false a 1).mpr z.1)]) _ (et.trans e5)
        · have c' : isNumD (.tuple [.int (sgI false a), .int ((1 : Nat) : Int)]) = true := by simpa using c
          have hn : IsNum (sgI false a) ((1 : Nat) : Int) := of_decide_eq_true c'
          refine ⟨_, rfl, _, rfl, _, _, rfl, rfl, hm, _, rfl, sz5 (by simp), fun t2 ht2 => ?_⟩
          have e6 := et.trans e5
          have e7 := e6.trans (Evl.Ex.new (o := .tup [.int ((1 : Int) * (a : Int)), .int ((1 : Nat) : Int)]) ht2)
          have d2 : Dp K (upd H5 t2 (.tup [.int ((1 : Int) * (a : Int)), .int ((1 : Nat) : Int)])) (.ref t2) (.tuple [.int (sgI false a), .int ((1 : Nat) : Int)]) := by rw [← hmul]; exact Dp.tupN (K := K) ht2 (.cons (.int _) (.cons (.int _) .nil))
          refine ⟨_, rfl, _, rfl, _, d2, fun z => absurd hn (fun y => by rw [isNumD_is y] at z; cases z), fun p' q' ep i => ?_⟩
          cases ep
          refine ⟨((sgI_bd false ba).mono (show 1396 ≤ 1920 by decide)).log (by decide), (bb.mono (show 1396 ≤ 1920 by decide)).log (by decide), fun H7 e8 => ⟨_, rfl, rfl, _, rfl, ?_⟩⟩
          have hlt := ntext_S false a 1
          rw [hlt]
          refine iteB (fun c2 => ?_) (fun c2 => ?_)
          · have hl2 : numT false a 1 = l := S_inj (V.str.inj (of_decide_eq_true c2))
            refine ⟨_, rfl, qs _ _ (by rw [en, if_pos ⟨(isNum_sg false a 1).mp hn, hl2⟩]) t2 H7 (exn e6 ht2) (e7.trans e8) (e8 _ _ (by rw [upd_same]; show some (HO.tup [V.int ((1 : Int) * (a : Int)), V.int ((1 : Nat) : Int)]) = _; rw [hmul]))⟩
          · have hl2 : ¬ numT false a 1 = l := fun z => of_decide_eq_false c2 (by rw [z])
            exact qn (by rw [en, if_neg fun z => hl2 z.2]) _ (e7.trans e8)
    | some pq =>
      obtain ⟨p, q⟩ := pq
      rw [part_some hp]
      have e2 := Evl.Ex.new (o := .tup [.str (S p), .str (S [47]), .str (S q)]) ht2
      have hpl := par_len hp
      refine ⟨_, _, rfl, SqT.of upd_same, rfl, _, _, rfl, _, _, rfl, _, _, rfl, rfl, ?_⟩
      refine ⟨_, rfl, _, rfl, p, rfl, by omega, fun H3 e3 => ?_⟩
      refine ⟨_, rfl, rfl, _, rfl, iteB (fun _ => ?_) (fun c => absurd (show (!decide (V.str (S [47]) = V.str (Str.ofString ""))) = false from c) (by decide))⟩
      refine ⟨_, rfl, _, rfl, q, rfl, by omega, fun H4 e4 => ⟨_, _, rfl, ?_⟩⟩
      cases h1 : intOf p with
      | none =>
        rw [intV_none h1]
        exact ⟨_, rfl, rfl, _, rfl, iteT (qn (by unfold Rm.numOf; rw [hneg]; simp only [hp, Option.getD_some, Option.getD_none, Option.isSome_some, Option.isSome_none, if_true, Bool.false_eq_true, if_false, h1]) _ ((e1.trans e2).trans (e3.trans e4)))⟩
      | some a =>
        rw [intV_some h1]
        cases h2 : intOf q with
        | none =>
          rw [intV_none h2]
          exact ⟨_, rfl, rfl, _, rfl, iteF ⟨_, rfl, rfl, _, rfl, iteT (qn (by unfold Rm.numOf; rw [hneg]; simp only [hp, Option.getD_some, Option.getD_none, Option.isSome_some, Option.isSome_none, if_true, Bool.false_eq_true, if_false, h1, h2]) _ ((e1.trans e2).trans (e3.trans e4)))⟩⟩
        | some b =>
          rw [intV_some h2]
          have ba := intOf_bd h1
          have bb := intOf_bd h2
          have mul : ∀ i : Int, i = (1 : Int) * (a : Int) → i = sgI false a := fun i e => e.trans (sg_mul false a)
          have hm : CMulW (1 : Int) (a : Int) := Bd.mulW (m := 2) (by unfold Bd; decide) ba
          have en : Rm.numOf l = if (1 ≤ b ∧ Nat.gcd a b = 1) ∧ numT false a b = l then some (sgI false a, ((b : Nat) : Int)) else none := by
            unfold Rm.numOf
            rw [hneg]
            simp only [hp, Option.getD_some, Option.getD_none, Option.isSome_some, Option.isSome_none, if_true, Bool.false_eq_true, if_false, h1, h2]
            try rfl
          refine ⟨_, rfl, rfl, _, rfl, iteF ⟨_, rfl, rfl, _, rfl, iteF ?_⟩⟩
          refine ⟨_, rfl, _, rfl, _, _, rfl, rfl, hm, _, rfl, sz5 (by simp), fun t ht => ?_⟩
          have hmul : (1 : Int) * (a : Int) = sgI false a := sg_mul false a
          have et := ((e1.trans e2).trans (e3.trans e4)).trans (Evl.Ex.new (o := .tup [.int ((1 : Int) * (a : Int)), .int ((b : Nat) : Int)]) ht)
          have d1 : Dp K (upd H4 t (.tup [.int ((1 : Int) * (a : Int)), .int ((b : Nat) : Int)])) (.ref t) (.tuple [.int (sgI false a), .int ((b : Nat) : Int)]) := by rw [← hmul]; exact Dp.tupN (K := K) ht (.cons (.int _) (.cons (.int _) .nil))
          refine ⟨_, rfl, _, d1, fun H5 e5 => ⟨_, rfl, iteB (fun c => ?_) (fun c => ?_)⟩⟩
          · have c' : isNumD (.tuple [.int (sgI false a), .int ((b : Nat) : Int)]) = false := by simpa using c
            have hn : ¬ IsNum (sgI false a) ((b : Nat) : Int) := fun z => by rw [isNumD_is z] at c'; cases c'
            exact qn (by rw [en, if_neg fun z => hn ((isNum_sg false a b).mpr z.1)]) _ (et.trans e5)
          · have c' : isNumD (.tuple [.int (sgI false a), .int ((b : Nat) : Int)]) = true := by simpa using c
            have hn : IsNum (sgI false a) ((b : Nat) : Int) := of_decide_eq_true c'
            refine ⟨_, rfl, _, rfl, _, _, rfl, rfl, hm, _, rfl, sz5 (by simp), fun t2 ht2 => ?_⟩
            have e6 := et.trans e5
            have e7 := e6.trans (Evl.Ex.new (o := .tup [.int ((1 : Int) * (a : Int)), .int ((b : Nat) : Int)]) ht2)
            have d2 : Dp K (upd H5 t2 (.tup [.int ((1 : Int) * (a : Int)), .int ((b : Nat) : Int)])) (.ref t2) (.tuple [.int (sgI false a), .int ((b : Nat) : Int)]) := by rw [← hmul]; exact Dp.tupN (K := K) ht2 (.cons (.int _) (.cons (.int _) .nil))
            refine ⟨_, rfl, _, rfl, _, d2, fun z => absurd hn (fun y => by rw [isNumD_is y] at z; cases z), fun p' q' ep i => ?_⟩
            cases ep
            refine ⟨((sgI_bd false ba).mono (show 1396 ≤ 1920 by decide)).log (by decide), (bb.mono (show 1396 ≤ 1920 by decide)).log (by decide), fun H7 e8 => ⟨_, rfl, rfl, _, rfl, ?_⟩⟩
            have hlt := ntext_S false a b
            rw [hlt]
            refine iteB (fun c2 => ?_) (fun c2 => ?_)
            · have hl2 : numT false a b = l := S_inj (V.str.inj (of_decide_eq_true c2))
              refine ⟨_, rfl, qs _ _ (by rw [en, if_pos ⟨(isNum_sg false a b).mp hn, hl2⟩]) t2 H7 (exn e6 ht2) (e7.trans e8) (e8 _ _ (by rw [upd_same]; show some (HO.tup [V.int ((1 : Int) * (a : Int)), V.int ((b : Nat) : Int)]) = _; rw [hmul]))⟩
            · have hl2 : ¬ numT false a b = l := fun z => of_decide_eq_false c2 (by rw [z])
              exact qn (by rw [en, if_neg fun z => hl2 z.2]) _ (e7.trans e8)
theorem ok_number_of (T : Txt P K mg base D) : CallG P w K mg base 5 D.number_of [] spNumOf := by
  obtain ⟨fd, F, B⟩ := fb_number_of (w := w) (base := base) T
  exact B.pos sp1_len (F.binds (ps := ["word"]) fun _ _ _ _ _ _ us hl => match us, hl with | [_], _ => rfl)
abbrev N_parse_number : List Str := ["text", "found"]
theorem sc_parse_number : FnScope N_parse_number ["text"] (defScope s_parse_number) := ⟨rfl, rfl, rfl, by decide +kernel, rfl, by decide +kernel, by decide +kernel⟩
theorem fb_parse_number (T : Txt P K mg base D) : ∃ fd, Fun K "parse_number" "parse_number" s_parse_number D.parse_number fd ∧ FnB P w K mg base 6 D.parse_number fd ["text"] (spParse K D.InvalidText) := by
  obtain ⟨fd, F⟩ := T.f_parse_number
  refine ⟨fd, F, Fun_okB (k := 5) F sc_parse_number fun cdv A outer s H vs Q E hr hg h => ?_⟩
  have nd := sc_parse_number.nd
  obtain ⟨x, rfl, d, hd, hz, qe, qs⟩ := h
  refine ⟨_, (pss_cons (ps_set (i := 1) nd rfl (.inl rfl) (pe_ifExp (pt_val (pe_callB call_isD rfl T.n_isinstance (by decide +kernel) (pa_cons (pv 0) (pa_cons (pe_bltn (v := .ty "str") rfl T.n_str (by decide +kernel) rfl) pa_nil)))) (pe_callG (ok_number_of T) (hr.mono (by decide)) hg (takes_of rfl rfl rfl rfl) rfl T.g_number_of T.k_number_of (pa_cons (pv 0) pa_nil)) pe_non))
        (pss_cons (ps_if (pt_cmpR op_isN (pv 1) pe_non (nomark _)) (pss_one (ps_raise rfl (takes_of rfl rfl rfl rfl) (pmk_newX T.x_InvalidText (hr.mono (by decide)) T.k_InvalidText (T.z_InvalidText _ rfl) rfl T.g_InvalidText pe_int))) pss_nil)
        (pss_one (ps_ret (pv 1))))), ?_⟩
  refine ⟨_, rfl, _, _, d, _, rfl, hd, kit_str d, _, rfl, ?_⟩
  refine iteB (fun c => ?_) (fun c => ?_)
  · obtain ⟨z, rfl⟩ : ∃ z, d = .str z := by cases d <;> first | exact ⟨_, rfl⟩ | cases c
    cases hd
    refine ⟨_, rfl, _, rfl, z.cps.toList, by rw [S_tl], by have := hz z rfl; rw [Array.length_toList]; exact this, fun hn H' e' => ?_, fun p q hs a H' ha e' h' => ?_⟩
    · exact ⟨_, rfl, rfl, _, rfl, iteT (fun dd hdd => qe hn dd _ (e'.trans (Evl.Ex.new hdd)) upd_same)⟩
    · exact ⟨_, rfl, rfl, _, rfl, iteF ⟨_, rfl, qs p q hs a H' ha e' h'⟩⟩
  · have hn : txtNum d = none := by cases d <;> first | rfl | cases c
    exact ⟨_, rfl, rfl, _, rfl, iteT (fun dd hdd => qe hn dd _ (Evl.Ex.new hdd) upd_same)⟩
theorem ok_parse_number (T : Txt P K mg base D) : CallG P w K mg base 6 D.parse_number [] (spParse K D.InvalidText) := by
  obtain ⟨fd, F, B⟩ := fb_parse_number (w := w) (base := base) T
  exact B.pos sp1_len (F.binds (ps := ["text"]) fun _ _ _ _ _ _ us hl => match us, hl with | [_], _ => rfl)
theorem ok_parse_number_text (T : Txt P K mg base D) : CallG P w K mg base 6 D.parse_number ["text"] (fun vs H Q E => vs.length = 1 ∧ (spParse K D.InvalidText) (permV [0] vs) H Q E) := by
  obtain ⟨fd, F, B⟩ := fb_parse_number (w := w) (base := base) T
  refine FnB.perm (ks := ["text"]) B [0] 1 sp1_len fun s us ws hk hw hl => ?_
  match us, ws, hw, hl with
  | [], [_], _, _ =>
    obtain ⟨_, _, _, _, _, _, _, _, _, rfl, _⟩ := F.ex
    exact BindsTo.of_eq rfl
  | _ :: _, [_], _, h => exact absurd h (by simp)
abbrev N__law_judged : List Str := ["page", "due", "told"]
theorem sc__law_judged : FnScope N__law_judged ["page"] (defScope s__law_judged) := ⟨rfl, rfl, rfl, by decide +kernel, rfl, by decide +kernel, by decide +kernel⟩
def spJudged (K : Frag) (D : Ad) : Sp := sp1 fun x H Q _ => ∃ l : List Nat, x = .str (S l) ∧ l.length ≤ 10000000 ∧ okL l ∧ Tabs (TABS D) H ∧ ∀ H', ExtN H H' → Tabs (TABS D) H' → Q (.bl true) H'
theorem fb__law_judged (T : Txt P K mg base D) : ∃ fd, Fun K "_law_judged" "_law_judged" s__law_judged D._law_judged fd ∧ FnB P w K mg base 9 D._law_judged fd ["page"] (spJudged K D) := by
  obtain ⟨fd, F, hcode⟩ := T.f__law_judged
  refine ⟨fd, F, Fun_okC (k := 8) F hcode sc__law_judged fun A outer s H vs Q E hr hg h => ?_⟩
  have nd := sc__law_judged.nd
  obtain ⟨x, rfl, l, rfl, hl, hk, hT, hq⟩ := h
  refine ⟨_, (pss_cons (ps_set (i := 1) nd rfl (.inl rfl) (pe_callG (ok__law_number_of T) (hr.mono (by decide)) hg (takes_of rfl rfl rfl rfl) rfl T.g__law_number_of T.k__law_number_of (pa_cons (pv 0) pa_nil)))
        (pss_cons (ps_set (i := 1) nd rfl (.inl rfl) (pe_ifExp (pt_cmpR (op_neD hr.units) (pv 1) (pe_lst pa_nil) (nomark _)) (pv 1) (pe_tup (pa_cons pe_str (pa_cons pe_int pa_nil)))))
        (pss_cons (ps_set (i := 2) nd rfl (.inl rfl) (pe_lst (pa_cons (pe_lamG (T := TABS D) (k := 2) (j := 6) (tel__law_told T) (hr.mono (by decide)) (by decide) hg (takes_of rfl rfl rfl rfl) rfl T.g__law_told T.k__law_told T.tb__law_judged rfl tabs__law_judged (tabs_u__law_judged T) (lamS_by (sc := defScope s__law_judged) (by decide +kernel)) rfl (fun _ _ _ _ _ => rfl) (fun E A outer s2 H2 f c' hr hg => (pe_callG (ok_parse_number T) (hr.mono (by decide)) hg (takes_of rfl rfl rfl rfl) rfl T.g_parse_number T.k_parse_number (pa_cons (pv 0) pa_nil)))) pa_nil)))
        (pss_cons (ps_expr (pe_bm PySem.F.plainAttrs_list PySem.F.slot_list_append PySem.F.type_list_append mt_append (pv 2) (pa_cons (pe_lamG (T := TABS D) (k := 2) (j := 6) (tel__law_told T) (hr.mono (by decide)) (by decide) hg (takes_of rfl rfl rfl rfl) rfl T.g__law_told T.k__law_told T.tb__law_judged rfl tabs__law_judged (tabs_u__law_judged T) (lamS_by (sc := defScope s__law_judged) (by decide +kernel)) rfl (fun _ _ _ _ _ => rfl) (fun E A outer s2 H2 f c' hr hg => (pe_callGK0 (ok_parse_number_text T) (hr.mono (by decide)) hg (takes_of rfl rfl rfl rfl) rfl T.g_parse_number T.k_parse_number (pk_cons (pv 0) pk_nil)))) pa_nil)))
        (pss_one (ps_ret (pe_cmpR op_eq (pe_callB (call_reprD hr hg) rfl T.n_repr (by decide +kernel) (pa_cons (pv 2) pa_nil)) (pe_callB (call_reprD hr hg) rfl T.n_repr (by decide +kernel) (pa_cons (pe_lst (pa_cons (pv 1) (pa_cons (pv 1) pa_nil))) pa_nil)) (nomark _)))))))), ?_⟩
  have hz16 : ∀ z, PyData.str (S l) = .str z → z.length ≤ 16000000 := fun z e => by
    cases e
    rw [S_len]
    omega
  refine ⟨_, rfl, _, rfl, l, rfl, by omega, hk, fun a1 H1 e1 d1 => ?_⟩
  have shl : SeqAt.shaped (.list (lawD l)) = true := by
    unfold lawD
    cases Rm.numOf l with
    | none => exact shaped_nil
    | some pq =>
      refine shaped_list fun d hd => ?_
      rw [List.mem_singleton.mp hd]
      simp [PyData.canLay0, PyData.canLayAll0, PyData.depth, PyData.depthAll]
  refine ⟨_, rfl, sz5 (by simp), fun p2 hp2 => ⟨_, _, Dp.new (K := K) _ hp2 d1, Dp.lstN (K := K) hp2 .nil, shl, shaped_nil, _, rfl, ?_⟩⟩
  rw [eqv_nil]
  have f2 := Evl.Ex.new (o := .lst []) hp2
  refine iteB (fun c => ⟨_, rfl, ?_⟩) (fun c => ⟨sz5 (by simp), fun p3 hp3 => ?_⟩)
  · have hj : judD (.str (S l)) = .list (lawD l) := by
      unfold judD lawD at *
      show (match Rm.numOf l with | some (p, q) => PyData.list [.tuple [.int p, .int q]] | none => .tuple [.str "text", .int 0]) = _
      cases h : Rm.numOf l with
      | none => rw [h] at c; simp at c
      | some pq => rfl
    have dx : Dp K (upd H1 p2 (.lst [])) (.ref a1) (judD (.str (S l))) := by rw [hj]; exact Dp.new (K := K) _ hp2 d1
    have ex : Ex H (upd H1 p2 (.lst [])) := e1.trans f2
    have hT2 := hT.ext ex
    refine ⟨hT2, fun H4 x4 T4 El R H5 e5 hR => ⟨_, rfl, parse_in (.str _) hz16 hR fun b1 H6 e6 d6 => ⟨sz5 (by simp), fun p7 hp7 => ?_⟩⟩⟩
    have f7 := Evl.Ex.new (o := .lst [.ref b1]) hp7
    refine ⟨_, rfl, .inl ⟨rfl, _, SqL.of upd_same⟩, (T4.ext (e5.trans (e6.trans f7))), fun H8 x8 T8 El' R' H9 e9 hR' => ⟨_, rfl, rfl, rfl, parse_in (.str _) hz16 hR' fun b2 H10 e10 d10 => ?_⟩⟩
    have l8 : H8 p7 = some (.lst [.ref b1]) := x8 _ _ upd_same fun ps z => by cases z
    have l10 := e10 _ _ (e9 _ _ l8)
    refine ⟨p7, _, _, rfl, rfl, l10, by rw [sizeLine_eq]; simp, ?_⟩
    have nb : ∀ {b u}, H6 b = some u → b ≠ p7 := fun {b u} e z => by rw [z, hp7] at e; cases e
    have x610 : ExtN H6 H10 := (ExtN.ex f7).trans (x8.trans (ExtN.ex (e9.trans e10)))
    have k1 : Dp K (upd H10 p7 (.lst [.ref b1, .ref b2])) (.ref b1) (judD (.str (S l))) := d6 _ fun b u _ hn e => by rw [upd_ne (nb e)]; exact x610 b u e hn
    have k2 : Dp K (upd H10 p7 (.lst [.ref b1, .ref b2])) (.ref b2) (judD (.str (S l))) := d10 _ fun b u h9 hn e => by rw [upd_ne fun z => by rw [z, e9 _ _ l8] at h9; cases h9]; exact e
    have xH6 : ExtN H H6 := (ExtN.ex ex).trans (x4.trans (ExtN.ex (e5.trans e6)))
    have xx6 : ExtN (upd H1 p2 (.lst [])) H6 := x4.trans (ExtN.ex (e5.trans e6))
    have dF : Dp K (upd H10 p7 (.lst [.ref b1, .ref b2])) (.ref a1) (judD (.str (S l))) := (Car.updF (Car.extN xx6) hp7 (Car.extN (xx6.trans x610))).d dx
    refine ⟨_, rfl, _, _, rfl, .lst (SqL.of upd_same) (.cons k1 (.cons k2 .nil)), judD_two.s, judD_two.n, judD_two.p, judD_two.l, _, rfl, _, rfl, sz5 (by simp), fun p11 hp11 => ⟨_, _, rfl, Dp.lstN (K := K) hp11 (.cons dF (.cons dF .nil)), judD_two.s, judD_two.n, judD_two.p, judD_two.l, rfl, ?_⟩⟩
    show Q (.bl (decide (V.str _ = V.str _))) _
    rw [decide_eq_true rfl]
    have f11 := Evl.Ex.new (o := .lst [.ref a1, .ref a1]) hp11
    exact hq _ ((ExtN.updF xH6 hp7 (xH6.trans x610)).trans (ExtN.ex f11)) (LamX.Tabs.ext (Rm.Tabs.updL (LamX.Tabs.ext T8 (e9.trans e10)) l10) f11)
  · have hj : judD (.str (S l)) = .tuple [.str "text", .int 0] := by
      unfold judD lawD at *
      show (match Rm.numOf l with | some (p, q) => PyData.list [.tuple [.int p, .int q]] | none => .tuple [.str "text", .int 0]) = _
      cases h : Rm.numOf l with
      | none => rfl
      | some pq => rw [h] at c; simp at c
    have dx : Dp K (upd (upd H1 p2 (.lst [])) p3 (.tup [.str "text", .int 0])) (.ref p3) (judD (.str (S l))) := by rw [hj]; exact Dp.tupN (K := K) hp3 (.cons (.str _) (.cons (.int _) .nil))
    have ex : Ex H (upd (upd H1 p2 (.lst [])) p3 (.tup [.str "text", .int 0])) := (e1.trans f2).trans (Evl.Ex.new hp3)
    have hT2 := hT.ext ex
    refine ⟨hT2, fun H4 x4 T4 El R H5 e5 hR => ⟨_, rfl, parse_in (.str _) hz16 hR fun b1 H6 e6 d6 => ⟨sz5 (by simp), fun p7 hp7 => ?_⟩⟩⟩
    have f7 := Evl.Ex.new (o := .lst [.ref b1]) hp7
    refine ⟨_, rfl, .inl ⟨rfl, _, SqL.of upd_same⟩, (T4.ext (e5.trans (e6.trans f7))), fun H8 x8 T8 El' R' H9 e9 hR' => ⟨_, rfl, rfl, rfl, parse_in (.str _) hz16 hR' fun b2 H10 e10 d10 => ?_⟩⟩
    have l8 : H8 p7 = some (.lst [.ref b1]) := x8 _ _ upd_same fun ps z => by cases z
    have l10 := e10 _ _ (e9 _ _ l8)
    refine ⟨p7, _, _, rfl, rfl, l10, by rw [sizeLine_eq]; simp, ?_⟩
    have nb : ∀ {b u}, H6 b = some u → b ≠ p7 := fun {b u} e z => by rw [z, hp7] at e; cases e
    have x610 : ExtN H6 H10 := (ExtN.ex f7).trans (x8.trans (ExtN.ex (e9.trans e10)))
    have k1 : Dp K (upd H10 p7 (.lst [.ref b1, .ref b2])) (.ref b1) (judD (.str (S l))) := d6 _ fun b u _ hn e => by rw [upd_ne (nb e)]; exact x610 b u e hn
    have k2 : Dp K (upd H10 p7 (.lst [.ref b1, .ref b2])) (.ref b2) (judD (.str (S l))) := d10 _ fun b u h9 hn e => by rw [upd_ne fun z => by rw [z, e9 _ _ l8] at h9; cases h9]; exact e
    have xH6 : ExtN H H6 := (ExtN.ex ex).trans (x4.trans (ExtN.ex (e5.trans e6)))
    have xx6 : ExtN (upd (upd H1 p2 (.lst [])) p3 (.tup [.str "text", .int 0])) H6 := x4.trans (ExtN.ex (e5.trans e6))
    have dF : Dp K (upd H10 p7 (.lst [.ref b1, .ref b2])) (.ref p3) (judD (.str (S l))) := (Car.updF (Car.extN xx6) hp7 (Car.extN (xx6.trans x610))).d dx
    refine ⟨_, rfl, _, _, rfl, .lst (SqL.of upd_same) (.cons k1 (.cons k2 .nil)), judD_two.s, judD_two.n, judD_two.p, judD_two.l, _, rfl, _, rfl, sz5 (by simp), fun p11 hp11 => ⟨_, _, rfl, Dp.lstN (K := K) hp11 (.cons dF (.cons dF .nil)), judD_two.s, judD_two.n, judD_two.p, judD_two.l, rfl, ?_⟩⟩
    show Q (.bl (decide (V.str _ = V.str _))) _
    rw [decide_eq_true rfl]
    have f11 := Evl.Ex.new (o := .lst [.ref p3, .ref p3]) hp11
    exact hq _ ((ExtN.updF xH6 hp7 (xH6.trans x610)).trans (ExtN.ex f11)) (LamX.Tabs.ext (Rm.Tabs.updL (LamX.Tabs.ext T8 (e9.trans e10)) l10) f11)
theorem ok__law_judged (T : Txt P K mg base D) : CallG P w K mg base 9 D._law_judged [] (spJudged K D) := by
  obtain ⟨fd, F, B⟩ := fb__law_judged (w := w) (base := base) T
  exact B.pos sp1_len (F.binds (ps := ["page"]) fun _ _ _ _ _ _ us hl => match us, hl with | [_], _ => rfl)
abbrev N__law_chosen_right : List Str := ["nines", "some", "page", "odd"]
theorem sc__law_chosen_right : FnScope N__law_chosen_right [] (defScope s__law_chosen_right) := ⟨rfl, rfl, rfl, by decide +kernel, rfl, by decide +kernel, by decide +kernel⟩
def spChosen (K : Frag) (D : Ad) : Sp := sp0 fun H Q _ => Tabs (TABS D) H ∧ ∀ H', ExtN H H' → Tabs (TABS D) H' → Q (.bl true) H'
theorem fb__law_chosen_right (T : Txt P K mg base D) : ∃ fd, Fun K "_law_chosen_right" "_law_chosen_right" s__law_chosen_right D._law_chosen_right fd ∧ FnB P w K mg base 10 D._law_chosen_right fd [] (spChosen K D) := by
  obtain ⟨fd, F, hcode⟩ := T.f__law_chosen_right
  refine ⟨fd, F, Fun_okC (k := 9) F hcode sc__law_chosen_right fun A outer s H vs Q E hr hg h => ?_⟩
  have nd := sc__law_chosen_right.nd
  obtain ⟨rfl, hT, hq⟩ := h
  refine ⟨_, (pss_cons (ps_set (i := 0) nd rfl (.inl rfl) (pe_op op_repS pe_str pe_int))
        (pss_cons (ps_set (i := 1) nd rfl (.inl rfl) (pe_lst (pa_cons pe_str (pa_cons pe_str (pa_cons pe_str (pa_cons pe_str (pa_cons pe_str (pa_cons pe_str (pa_cons pe_str (pa_cons pe_str (pa_cons pe_str (pa_cons pe_str (pa_cons pe_str (pa_cons pe_str (pa_cons pe_str (pa_cons pe_str (pa_cons pe_str (pa_cons pe_str (pa_cons pe_str pa_nil)))))))))))))))))))
        (pss_cons (ps_set (i := 1) nd rfl (.inl rfl) (pe_op op_catL (pv 1) (pe_lst (pa_cons pe_str (pa_cons pe_str (pa_cons pe_str (pa_cons pe_str (pa_cons pe_str (pa_cons pe_str (pa_cons pe_str (pa_cons pe_str (pa_cons pe_str (pa_cons pe_str (pa_cons pe_str (pa_cons (pv 0) (pa_cons (pe_op op_add_str pe_str (pv 0)) pa_nil))))))))))))))))
        (pss_cons (ps_set (i := 1) nd rfl (.inl rfl) (pe_op op_catL (pv 1) (pe_lst (pa_cons (pe_op op_add_str (pv 0) pe_str) (pa_cons (pe_op op_add_str pe_str (pv 0)) (pa_cons (pe_op op_add_str (pe_op op_add_str pe_str (pv 0)) pe_str) (pa_cons (pe_op op_add_str pe_str (pv 0)) (pa_cons (pe_op op_repS pe_str pe_int) (pa_cons (pe_op op_repS pe_str pe_int) (pa_cons (pe_op op_repS pe_str pe_int) pa_nil))))))))))
        (pss_cons (ps_if (pt_cmpR (op_neD hr.units) (pe_lc (own := [("page", 2)]) (g := gName 2) (by rfl) nd (pi_list (pv 1)) (blkOk_by (own := [("page", 2)]) (N := N__law_chosen_right) (sc := defScope s__law_chosen_right) (by decide +kernel)) (fun _ _ _ _ _ => pg_name (i := 2) nd rfl (Or.inl rfl)) (fun _ _ _ _ _ => (pts_one (pt_not (pt_val (pe_callG (ok__law_judged T) (hr.mono (by decide)) hg takesF rfl T.g__law_judged T.k__law_judged (pa_cons (pv 2) pa_nil)))))) (fun _ _ _ _ _ => (pv 2))) (pe_lst pa_nil) (nomark _)) (pss_one (ps_ret pe_bl)) pss_nil)
        (pss_cons (ps_for (passes_of rfl) rfl (pi_tup (pe_tup (pa_cons pe_non (pa_cons pe_bl (pa_cons pe_int (pa_cons pe_int (pa_cons (pe_tup (pa_cons pe_int (pa_cons pe_int pa_nil))) (pa_cons (pe_lst (pa_cons pe_int (pa_cons pe_int pa_nil))) (pa_cons (pe_tup pa_nil) (pa_cons (pe_lst (pa_cons pe_str pa_nil)) (pa_cons (pe_tup (pa_cons pe_str pa_nil)) pa_nil))))))))))) (pg_name (i := 3) nd rfl (.inr rfl)) (pss_one (ps_if (pt_cmpR op_ne (pe_callB (call_reprD hr hg) rfl T.n_repr (by decide +kernel) (pa_cons (pe_lamG (T := TABS D) (k := 2) (j := 6) (tel__law_told T) (hr.mono (by decide)) (by decide) hg (takes_of rfl rfl rfl rfl) rfl T.g__law_told T.k__law_told T.tb__law_chosen_right rfl tabs__law_chosen_right (tabs_u__law_chosen_right T) (lamS_by (sc := defScope s__law_chosen_right) (by decide +kernel)) rfl (fun _ _ _ _ _ => rfl) (fun E A outer s2 H2 f c' hr hg => (pe_callG (ok_parse_number T) (hr.mono (by decide)) hg (takes_of rfl rfl rfl rfl) rfl T.g_parse_number T.k_parse_number (pa_cons (pv 3) pa_nil)))) pa_nil)) (pe_callB (call_reprD hr hg) rfl T.n_repr (by decide +kernel) (pa_cons (pe_tup (pa_cons pe_str (pa_cons pe_int pa_nil))) pa_nil)) (nomark _)) (pss_one (ps_ret pe_bl)) pss_nil)))
        (pss_one (ps_ret pe_bl)))))))), ?_⟩
  have gn : Gs 420 (S (List.replicate 420 57)) := Gs.rep (by decide) (by decide)
  have lm : Gs 4 (Str.ofString "-") := Gs.lit _ (by decide) (by decide)
  have l9 : Gs 4 (Str.ofString "9") := Gs.lit _ (by decide) (by decide)
  have l1 : Gs 4 (Str.ofString "1/") := Gs.lit _ (by decide) (by decide)
  have ln : Gs 4 (Str.ofString "-1/") := Gs.lit _ (by decide) (by decide)
  have a1 := lm.app gn
  have a2 := gn.app l9
  have a3 := l1.app gn
  have a4 := a3.app l9
  have a5 := ln.app gn
  refine ⟨57, 420, rfl, rfl, by decide, by decide, ?_⟩
  refine ⟨sz5 (by simp), fun p1 hp1 => ?_⟩
  refine ⟨_, rfl, _, rfl, _, rfl, _, _, rfl, rfl, by have := a1.len; rw [Str.length_append] at this; rw [sizeLine_eq]; omega, sz5 (by simp), fun p2 hp2 => ⟨p1, p2, [V.str (Str.ofString ""), V.str (Str.ofString "-"), V.str (Str.ofString "/"), V.str (Str.ofString "0"), V.str (Str.ofString "-0"), V.str (Str.ofString "00"), V.str (Str.ofString "01"), V.str (Str.ofString "1/0"), V.str (Str.ofString "0/1"), V.str (Str.ofString "0/2"), V.str (Str.ofString "1/1"), V.str (Str.ofString "2/4"), V.str (Str.ofString "4/2"), V.str (Str.ofString "-1/2"), V.str (Str.ofString "1/-2"), V.str (Str.ofString "--1"), V.str (Str.ofString "+1")], [V.str (Str.ofString " 1"), V.str (Str.ofString "1 "), V.str (Str.ofString "1/ 2"), V.str (Str.ofString "1/2/3"), V.str (Str.ofString "1//2"), V.str (Str.ofString "1.0"), V.str (Str.ofString "1e3"), V.str (Str.ofString "1_0"), V.str (Str.ofString "0x1"), V.str (Str.ofString "one"), V.str (Str.ofString "1\n"), V.str (S (List.replicate 420 57)), V.str (Str.ofString "-" ++ S (List.replicate 420 57))], rfl, rfl, (Car.ex (Evl.Ex.new hp2)).l (SqL.of upd_same), SqL.of upd_same, sz5 (by simp), fun p3 hp3 => ?_⟩⟩
  refine ⟨_, rfl, _, rfl, _, _, rfl, rfl, by have := a2.len; rw [Str.length_append] at this; rw [sizeLine_eq]; omega, _, rfl, _, _, rfl, rfl, by have := a3.len; rw [Str.length_append] at this; rw [sizeLine_eq]; omega, _, rfl, _, _, rfl, rfl, by have := a3.len; rw [Str.length_append] at this; rw [sizeLine_eq]; omega, _, _, rfl, rfl, by have := a4.len; rw [Str.length_append] at this; rw [sizeLine_eq]; omega, _, rfl, _, _, rfl, rfl, by have := a5.len; rw [Str.length_append] at this; rw [sizeLine_eq]; omega, 57, 419, rfl, rfl, by decide, by decide, 56, 5000, rfl, rfl, by decide, by decide, 48, 421, rfl, rfl, by decide, by decide, sz5 (by simp), fun p4 hp4 => ⟨p3, p4, ([V.str (Str.ofString ""), V.str (Str.ofString "-"), V.str (Str.ofString "/"), V.str (Str.ofString "0"), V.str (Str.ofString "-0"), V.str (Str.ofString "00"), V.str (Str.ofString "01"), V.str (Str.ofString "1/0"), V.str (Str.ofString "0/1"), V.str (Str.ofString "0/2"), V.str (Str.ofString "1/1"), V.str (Str.ofString "2/4"), V.str (Str.ofString "4/2"), V.str (Str.ofString "-1/2"), V.str (Str.ofString "1/-2"), V.str (Str.ofString "--1"), V.str (Str.ofString "+1")] ++ [V.str (Str.ofString " 1"), V.str (Str.ofString "1 "), V.str (Str.ofString "1/ 2"), V.str (Str.ofString "1/2/3"), V.str (Str.ofString "1//2"), V.str (Str.ofString "1.0"), V.str (Str.ofString "1e3"), V.str (Str.ofString "1_0"), V.str (Str.ofString "0x1"), V.str (Str.ofString "one"), V.str (Str.ofString "1\n"), V.str (S (List.replicate 420 57)), V.str (Str.ofString "-" ++ S (List.replicate 420 57))]), [V.str (S (List.replicate 420 57) ++ Str.ofString "9"), V.str (Str.ofString "1/" ++ S (List.replicate 420 57)), V.str (Str.ofString "1/" ++ S (List.replicate 420 57) ++ Str.ofString "9"), V.str (Str.ofString "-1/" ++ S (List.replicate 420 57)), V.str (S (List.replicate 419 57)), V.str (S (List.replicate 5000 56)), V.str (S (List.replicate 421 48))], rfl, rfl, (Car.ex (Evl.Ex.new hp4)).l (SqL.of upd_same), SqL.of upd_same, sz5 (by simp), fun p5 hp5 => ?_⟩⟩
  obtain ⟨XS, hXS⟩ : ∃ XS : List V, XS = (([V.str (Str.ofString ""), V.str (Str.ofString "-"), V.str (Str.ofString "/"), V.str (Str.ofString "0"), V.str (Str.ofString "-0"), V.str (Str.ofString "00"), V.str (Str.ofString "01"), V.str (Str.ofString "1/0"), V.str (Str.ofString "0/1"), V.str (Str.ofString "0/2"), V.str (Str.ofString "1/1"), V.str (Str.ofString "2/4"), V.str (Str.ofString "4/2"), V.str (Str.ofString "-1/2"), V.str (Str.ofString "1/-2"), V.str (Str.ofString "--1"), V.str (Str.ofString "+1")] ++ [V.str (Str.ofString " 1"), V.str (Str.ofString "1 "), V.str (Str.ofString "1/ 2"), V.str (Str.ofString "1/2/3"), V.str (Str.ofString "1//2"), V.str (Str.ofString "1.0"), V.str (Str.ofString "1e3"), V.str (Str.ofString "1_0"), V.str (Str.ofString "0x1"), V.str (Str.ofString "one"), V.str (Str.ofString "1\n"), V.str (S (List.replicate 420 57)), V.str (Str.ofString "-" ++ S (List.replicate 420 57))]) ++ [V.str (S (List.replicate 420 57) ++ Str.ofString "9"), V.str (Str.ofString "1/" ++ S (List.replicate 420 57)), V.str (Str.ofString "1/" ++ S (List.replicate 420 57) ++ Str.ofString "9"), V.str (Str.ofString "-1/" ++ S (List.replicate 420 57)), V.str (S (List.replicate 419 57)), V.str (S (List.replicate 5000 56)), V.str (S (List.replicate 421 48))]) := ⟨_, rfl⟩
  have e5 : Ex H (upd (upd (upd (upd (upd H p1 (.lst [V.str (Str.ofString ""), V.str (Str.ofString "-"), V.str (Str.ofString "/"), V.str (Str.ofString "0"), V.str (Str.ofString "-0"), V.str (Str.ofString "00"), V.str (Str.ofString "01"), V.str (Str.ofString "1/0"), V.str (Str.ofString "0/1"), V.str (Str.ofString "0/2"), V.str (Str.ofString "1/1"), V.str (Str.ofString "2/4"), V.str (Str.ofString "4/2"), V.str (Str.ofString "-1/2"), V.str (Str.ofString "1/-2"), V.str (Str.ofString "--1"), V.str (Str.ofString "+1")])) p2 (.lst [V.str (Str.ofString " 1"), V.str (Str.ofString "1 "), V.str (Str.ofString "1/ 2"), V.str (Str.ofString "1/2/3"), V.str (Str.ofString "1//2"), V.str (Str.ofString "1.0"), V.str (Str.ofString "1e3"), V.str (Str.ofString "1_0"), V.str (Str.ofString "0x1"), V.str (Str.ofString "one"), V.str (Str.ofString "1\n"), V.str (S (List.replicate 420 57)), V.str (Str.ofString "-" ++ S (List.replicate 420 57))])) p3 (.lst ([V.str (Str.ofString ""), V.str (Str.ofString "-"), V.str (Str.ofString "/"), V.str (Str.ofString "0"), V.str (Str.ofString "-0"), V.str (Str.ofString "00"), V.str (Str.ofString "01"), V.str (Str.ofString "1/0"), V.str (Str.ofString "0/1"), V.str (Str.ofString "0/2"), V.str (Str.ofString "1/1"), V.str (Str.ofString "2/4"), V.str (Str.ofString "4/2"), V.str (Str.ofString "-1/2"), V.str (Str.ofString "1/-2"), V.str (Str.ofString "--1"), V.str (Str.ofString "+1")] ++ [V.str (Str.ofString " 1"), V.str (Str.ofString "1 "), V.str (Str.ofString "1/ 2"), V.str (Str.ofString "1/2/3"), V.str (Str.ofString "1//2"), V.str (Str.ofString "1.0"), V.str (Str.ofString "1e3"), V.str (Str.ofString "1_0"), V.str (Str.ofString "0x1"), V.str (Str.ofString "one"), V.str (Str.ofString "1\n"), V.str (S (List.replicate 420 57)), V.str (Str.ofString "-" ++ S (List.replicate 420 57))]))) p4 (.lst [V.str (S (List.replicate 420 57) ++ Str.ofString "9"), V.str (Str.ofString "1/" ++ S (List.replicate 420 57)), V.str (Str.ofString "1/" ++ S (List.replicate 420 57) ++ Str.ofString "9"), V.str (Str.ofString "-1/" ++ S (List.replicate 420 57)), V.str (S (List.replicate 419 57)), V.str (S (List.replicate 5000 56)), V.str (S (List.replicate 421 48))])) p5 (.lst XS)) := (((((Evl.Ex.new hp1).trans (Evl.Ex.new hp2)).trans (Evl.Ex.new hp3)).trans (Evl.Ex.new hp4)).trans (Evl.Ex.new hp5))
  have hall : ∀ v ∈ XS, ∃ r : List Nat, v = .str (S r) ∧ r.length ≤ 10000 ∧ okL r := by
    have fin : ∀ {v : V} (n : Nat) (x : Str), Gs n x → n ≤ 10000 → v = .str x → ∃ r : List Nat, v = .str (S r) ∧ r.length ≤ 10000 ∧ okL r := fun {v} n x g hn e => by
      obtain ⟨r, rfl, h1, h2⟩ := g
      exact ⟨r, e, by omega, h2⟩
    intro v hv
    rw [hXS] at hv
    rcases List.mem_append.mp hv with hv | hv
    · rcases List.mem_append.mp hv with hv | hv
      · simp only [List.mem_cons, List.not_mem_nil, or_false] at hv
        rcases hv with e | e | e | e | e | e | e | e | e | e | e | e | e | e | e | e | e <;> exact fin 10000 _ (Gs.lit _ (by decide) (by decide)) (by decide) e
      · simp only [List.mem_cons, List.not_mem_nil, or_false] at hv
        rcases hv with e | e | e | e | e | e | e | e | e | e | e | e | e
        · exact fin 10000 _ (Gs.lit _ (by decide) (by decide)) (by decide) e
        · exact fin 10000 _ (Gs.lit _ (by decide) (by decide)) (by decide) e
        · exact fin 10000 _ (Gs.lit _ (by decide) (by decide)) (by decide) e
        · exact fin 10000 _ (Gs.lit _ (by decide) (by decide)) (by decide) e
        · exact fin 10000 _ (Gs.lit _ (by decide) (by decide)) (by decide) e
        · exact fin 10000 _ (Gs.lit _ (by decide) (by decide)) (by decide) e
        · exact fin 10000 _ (Gs.lit _ (by decide) (by decide)) (by decide) e
        · exact fin 10000 _ (Gs.lit _ (by decide) (by decide)) (by decide) e
        · exact fin 10000 _ (Gs.lit _ (by decide) (by decide)) (by decide) e
        · exact fin 10000 _ (Gs.lit _ (by decide) (by decide)) (by decide) e
        · exact fin 10000 _ (Gs.lit _ (by decide) (by decide)) (by decide) e
        · exact fin _ _ gn (by decide) e
        · exact fin _ _ a1 (by decide) e
    · simp only [List.mem_cons, List.not_mem_nil, or_false] at hv
      rcases hv with e | e | e | e | e | e | e
      · exact fin _ _ a2 (by decide) e
      · exact fin _ _ a3 (by decide) e
      · exact fin _ _ a4 (by decide) e
      · exact fin _ _ a5 (by decide) e
      · exact fin _ _ (Gs.rep (n := 419) (by decide) (by decide)) (by decide) e
      · exact fin _ _ (Gs.rep (n := 5000) (by decide) (by decide)) (by decide) e
      · exact fin _ _ (Gs.rep (n := 421) (by decide) (by decide)) (by decide) e
  have hlen : XS.length ≤ 1000 := by rw [hXS]; decide
  rw [← hXS]
  have hS5 : SqL K (upd (upd (upd (upd (upd H p1 (.lst [V.str (Str.ofString ""), V.str (Str.ofString "-"), V.str (Str.ofString "/"), V.str (Str.ofString "0"), V.str (Str.ofString "-0"), V.str (Str.ofString "00"), V.str (Str.ofString "01"), V.str (Str.ofString "1/0"), V.str (Str.ofString "0/1"), V.str (Str.ofString "0/2"), V.str (Str.ofString "1/1"), V.str (Str.ofString "2/4"), V.str (Str.ofString "4/2"), V.str (Str.ofString "-1/2"), V.str (Str.ofString "1/-2"), V.str (Str.ofString "--1"), V.str (Str.ofString "+1")])) p2 (.lst [V.str (Str.ofString " 1"), V.str (Str.ofString "1 "), V.str (Str.ofString "1/ 2"), V.str (Str.ofString "1/2/3"), V.str (Str.ofString "1//2"), V.str (Str.ofString "1.0"), V.str (Str.ofString "1e3"), V.str (Str.ofString "1_0"), V.str (Str.ofString "0x1"), V.str (Str.ofString "one"), V.str (Str.ofString "1\n"), V.str (S (List.replicate 420 57)), V.str (Str.ofString "-" ++ S (List.replicate 420 57))])) p3 (.lst ([V.str (Str.ofString ""), V.str (Str.ofString "-"), V.str (Str.ofString "/"), V.str (Str.ofString "0"), V.str (Str.ofString "-0"), V.str (Str.ofString "00"), V.str (Str.ofString "01"), V.str (Str.ofString "1/0"), V.str (Str.ofString "0/1"), V.str (Str.ofString "0/2"), V.str (Str.ofString "1/1"), V.str (Str.ofString "2/4"), V.str (Str.ofString "4/2"), V.str (Str.ofString "-1/2"), V.str (Str.ofString "1/-2"), V.str (Str.ofString "--1"), V.str (Str.ofString "+1")] ++ [V.str (Str.ofString " 1"), V.str (Str.ofString "1 "), V.str (Str.ofString "1/ 2"), V.str (Str.ofString "1/2/3"), V.str (Str.ofString "1//2"), V.str (Str.ofString "1.0"), V.str (Str.ofString "1e3"), V.str (Str.ofString "1_0"), V.str (Str.ofString "0x1"), V.str (Str.ofString "one"), V.str (Str.ofString "1\n"), V.str (S (List.replicate 420 57)), V.str (Str.ofString "-" ++ S (List.replicate 420 57))]))) p4 (.lst [V.str (S (List.replicate 420 57) ++ Str.ofString "9"), V.str (Str.ofString "1/" ++ S (List.replicate 420 57)), V.str (Str.ofString "1/" ++ S (List.replicate 420 57) ++ Str.ofString "9"), V.str (Str.ofString "-1/" ++ S (List.replicate 420 57)), V.str (S (List.replicate 419 57)), V.str (S (List.replicate 5000 56)), V.str (S (List.replicate 421 48))])) p5 (.lst XS)) p5 XS := SqL.of upd_same
  have T5 := hT.ext e5
  generalize (upd (upd (upd (upd (upd H p1 (.lst [V.str (Str.ofString ""), V.str (Str.ofString "-"), V.str (Str.ofString "/"), V.str (Str.ofString "0"), V.str (Str.ofString "-0"), V.str (Str.ofString "00"), V.str (Str.ofString "01"), V.str (Str.ofString "1/0"), V.str (Str.ofString "0/1"), V.str (Str.ofString "0/2"), V.str (Str.ofString "1/1"), V.str (Str.ofString "2/4"), V.str (Str.ofString "4/2"), V.str (Str.ofString "-1/2"), V.str (Str.ofString "1/-2"), V.str (Str.ofString "--1"), V.str (Str.ofString "+1")])) p2 (.lst [V.str (Str.ofString " 1"), V.str (Str.ofString "1 "), V.str (Str.ofString "1/ 2"), V.str (Str.ofString "1/2/3"), V.str (Str.ofString "1//2"), V.str (Str.ofString "1.0"), V.str (Str.ofString "1e3"), V.str (Str.ofString "1_0"), V.str (Str.ofString "0x1"), V.str (Str.ofString "one"), V.str (Str.ofString "1\n"), V.str (S (List.replicate 420 57)), V.str (Str.ofString "-" ++ S (List.replicate 420 57))])) p3 (.lst ([V.str (Str.ofString ""), V.str (Str.ofString "-"), V.str (Str.ofString "/"), V.str (Str.ofString "0"), V.str (Str.ofString "-0"), V.str (Str.ofString "00"), V.str (Str.ofString "01"), V.str (Str.ofString "1/0"), V.str (Str.ofString "0/1"), V.str (Str.ofString "0/2"), V.str (Str.ofString "1/1"), V.str (Str.ofString "2/4"), V.str (Str.ofString "4/2"), V.str (Str.ofString "-1/2"), V.str (Str.ofString "1/-2"), V.str (Str.ofString "--1"), V.str (Str.ofString "+1")] ++ [V.str (Str.ofString " 1"), V.str (Str.ofString "1 "), V.str (Str.ofString "1/ 2"), V.str (Str.ofString "1/2/3"), V.str (Str.ofString "1//2"), V.str (Str.ofString "1.0"), V.str (Str.ofString "1e3"), V.str (Str.ofString "1_0"), V.str (Str.ofString "0x1"), V.str (Str.ofString "one"), V.str (Str.ofString "1\n"), V.str (S (List.replicate 420 57)), V.str (Str.ofString "-" ++ S (List.replicate 420 57))]))) p4 (.lst [V.str (S (List.replicate 420 57) ++ Str.ofString "9"), V.str (Str.ofString "1/" ++ S (List.replicate 420 57)), V.str (Str.ofString "1/" ++ S (List.replicate 420 57) ++ Str.ofString "9"), V.str (Str.ofString "-1/" ++ S (List.replicate 420 57)), V.str (S (List.replicate 419 57)), V.str (S (List.replicate 5000 56)), V.str (S (List.replicate 421 48))])) p5 (.lst XS)) = H5 at *
  refine ⟨_, rfl, p5, rfl, ⟨_, hS5⟩, fun LD hLD => lc_it (walk_list (K := K) (a := p5) (xs := XS)) (vs := [2]) (fun i G => G LD = some (.lst []) ∧ ExtN (upd H5 LD (.lst [])) G ∧ Tabs (TABS D) G) ⟨upd_same, ExtN.refl _, LamX.Tabs.ext T5 (Evl.Ex.new hLD)⟩ (fun i G _ h => (Car.extN h.2.1).l ((Car.ex (Evl.Ex.new hLD)).l hS5)) (fun i x G G' hi h y => ?_) (fun G h => ?_)⟩
  · obtain ⟨rfl, hx⟩ := y
    obtain ⟨r, rfl, hr1, hr2⟩ := hall x (List.mem_of_getElem? hx)
    refine ⟨wipe_set, _, rfl, _, rfl, r, rfl, by omega, hr2, h.2.2, fun G2 x2 T2 => ⟨_, rfl, iteF ⟨x2 _ _ h.1 (fun ps z => by cases z), h.2.1.trans x2, T2⟩⟩⟩
  obtain ⟨h1, h2, h3⟩ := h
  refine ⟨sz5 (by simp), fun p6 hp6 => ⟨.list [], .list [], Dp.new (K := K) _ hp6 (.lst (SqL.of h1) .nil), Dp.lstN (K := K) hp6 .nil, shaped_nil, shaped_nil, _, rfl, ?_⟩⟩
  rw [eqv_nil]
  refine iteF ?_
  have T6 := LamX.Tabs.ext h3 (Evl.Ex.new (o := .lst []) hp6)
  have x6 : ExtN H (upd G p6 (.lst [])) := (((ExtN.ex e5).trans (ExtN.ex (Evl.Ex.new hLD))).trans h2).trans (ExtN.ex (Evl.Ex.new hp6))
  generalize upd G p6 (.lst []) = H6 at *
  refine ⟨sz5 (by simp), fun q1 hq1 => ⟨sz5 (by simp), fun q2 hq2 => ⟨sz5 (by simp), fun q3 hq3 => ⟨sz5 (by simp), fun q4 hq4 => ⟨sz5 (by simp), fun q5 hq5 => ⟨sz5 (by simp), fun q6 hq6 => ?_⟩⟩⟩⟩⟩⟩
  have f1 := Evl.Ex.new (o := .tup [.int 1, .int 2]) hq1
  have f2 := Evl.Ex.new (o := .lst [.int 1, .int 2]) hq2
  have f3 := Evl.Ex.new (o := .tup []) hq3
  have f4 := Evl.Ex.new (o := .lst [.str "1"]) hq4
  have f5 := Evl.Ex.new (o := .tup [.str "1"]) hq5
  have f6 := Evl.Ex.new (o := .tup [V.non, V.bl true, V.int 0, V.int 5, V.ref q1, V.ref q2, V.ref q3, V.ref q4, V.ref q5]) hq6
  have d1 := (Car.ex (f2.trans (f3.trans (f4.trans (f5.trans f6))))).d (Dp.tupN (K := K) hq1 (.cons (.int 1) (.cons (.int 2) .nil)))
  have d2 := (Car.ex (f3.trans (f4.trans (f5.trans f6)))).d (Dp.lstN (K := K) hq2 (.cons (.int 1) (.cons (.int 2) .nil)))
  have d3 := (Car.ex (f4.trans (f5.trans f6))).d (Dp.tupN (K := K) hq3 .nil)
  have d4 := (Car.ex (f5.trans f6)).d (Dp.lstN (K := K) hq4 (.cons (.str "1") .nil))
  have d5 := (Car.ex f6).d (Dp.tupN (K := K) hq5 (.cons (.str "1") .nil))
  have S6 : SqT K (upd (upd (upd (upd (upd (upd H6 q1 (.tup [.int 1, .int 2])) q2 (.lst [.int 1, .int 2])) q3 (.tup [])) q4 (.lst [.str "1"])) q5 (.tup [.str "1"])) q6 (.tup [V.non, V.bl true, V.int 0, V.int 5, V.ref q1, V.ref q2, V.ref q3, V.ref q4, V.ref q5])) q6 [V.non, V.bl true, V.int 0, V.int 5, V.ref q1, V.ref q2, V.ref q3, V.ref q4, V.ref q5] := SqT.of upd_same
  have items : ∀ x ∈ ([V.non, V.bl true, V.int 0, V.int 5, V.ref q1, V.ref q2, V.ref q3, V.ref q4, V.ref q5] : List V), ∃ d, Dp K (upd (upd (upd (upd (upd (upd H6 q1 (.tup [.int 1, .int 2])) q2 (.lst [.int 1, .int 2])) q3 (.tup [])) q4 (.lst [.str "1"])) q5 (.tup [.str "1"])) q6 (.tup [V.non, V.bl true, V.int 0, V.int 5, V.ref q1, V.ref q2, V.ref q3, V.ref q4, V.ref q5])) x d ∧ txtNum d = none ∧ ∀ z, d ≠ .str z := by
    intro x hx
    simp only [List.mem_cons, List.not_mem_nil, or_false] at hx
    rcases hx with rfl | rfl | rfl | rfl | rfl | rfl | rfl | rfl | rfl
    · exact ⟨_, .non, rfl, fun z e => by cases e⟩
    · exact ⟨_, .bl true, rfl, fun z e => by cases e⟩
    · exact ⟨_, .int 0, rfl, fun z e => by cases e⟩
    · exact ⟨_, .int 5, rfl, fun z e => by cases e⟩
    · exact ⟨_, d1, rfl, fun z e => by cases e⟩
    · exact ⟨_, d2, rfl, fun z e => by cases e⟩
    · exact ⟨_, d3, rfl, fun z e => by cases e⟩
    · exact ⟨_, d4, rfl, fun z e => by cases e⟩
    · exact ⟨_, d5, rfl, fun z e => by cases e⟩
  have x7 : ExtN H (upd (upd (upd (upd (upd (upd H6 q1 (.tup [.int 1, .int 2])) q2 (.lst [.int 1, .int 2])) q3 (.tup [])) q4 (.lst [.str "1"])) q5 (.tup [.str "1"])) q6 (.tup [V.non, V.bl true, V.int 0, V.int 5, V.ref q1, V.ref q2, V.ref q3, V.ref q4, V.ref q5])) := x6.trans (ExtN.ex (f1.trans (f2.trans (f3.trans (f4.trans (f5.trans f6))))))
  have T7 := LamX.Tabs.ext T6 (f1.trans (f2.trans (f3.trans (f4.trans (f5.trans f6)))))
  generalize (upd (upd (upd (upd (upd (upd H6 q1 (.tup [.int 1, .int 2])) q2 (.lst [.int 1, .int 2])) q3 (.tup [])) q4 (.lst [.str "1"])) q5 (.tup [.str "1"])) q6 (.tup [V.non, V.bl true, V.int 0, V.int 5, V.ref q1, V.ref q2, V.ref q3, V.ref q4, V.ref q5])) = H7 at *
  refine ⟨q6, rfl, ⟨_, S6⟩, for_tup (K := K) (a := q6) (xs := [V.non, V.bl true, V.int 0, V.int 5, V.ref q1, V.ref q2, V.ref q3, V.ref q4, V.ref q5]) (fun i σ G => (∃ o, σ = [some (.str (S (List.replicate 420 57))), some (.ref p5), none, o]) ∧ ExtN H7 G ∧ Tabs (TABS D) G) ⟨⟨none, rfl⟩, ExtN.refl _, T7⟩ (fun i σ G _ h => (Car.extN h.2.1).t S6) ?_ ?_⟩
  · rintro i x σ G hx ⟨⟨o, rfl⟩, xg, TG⟩
    obtain ⟨d, hd, hn, hns⟩ := items x (List.mem_of_getElem? hx)
    have hj : judD d = .tuple [.str "text", .int 0] := by unfold judD; rw [hn]
    have gj : Gd 100 16000000 (.tuple [.str "text", .int 0]) := by have := judD_gd (d := d); rw [hj] at this; exact this.mono (by decide) (by decide)
    refine ⟨TG, fun G1 x1 T1 El R G2 e2 hR => ⟨_, rfl, parse_in ((Car.ex e2).d ((Car.extN (xg.trans x1)).d hd)) (fun z e => absurd e (hns z)) hR fun b G3 e3 d3' => ?_⟩⟩
    have dj := d3'.self
    rw [hj] at dj
    refine ⟨_, _, rfl, dj, gj.s, gj.n, gj.p, gj.l, sz5 (by simp), fun p8 hp8 => ⟨_, _, rfl, Dp.tupN (K := K) hp8 (.cons (.str _) (.cons (.int _) .nil)), gj.s, gj.n, gj.p, gj.l, rfl, _, rfl, iteB (fun c => absurd c (by simp)) (fun _ => ?_)⟩⟩
    have f8 := Evl.Ex.new (o := .tup [.str "text", .int 0]) hp8
    exact ⟨⟨_, rfl⟩, xg.trans (x1.trans (ExtN.ex (e2.trans (e3.trans f8)))), LamX.Tabs.ext T1 (e2.trans (e3.trans f8))⟩
  · rintro σ G ⟨⟨o, rfl⟩, xg, TG⟩
    exact hq G (x7.trans xg) TG
theorem ok__law_chosen_right (T : Txt P K mg base D) : CallG P w K mg base 10 D._law_chosen_right [] (spChosen K D) := by
  obtain ⟨fd, F, B⟩ := fb__law_chosen_right (w := w) (base := base) T
  exact B.pos sp0_len (F.binds (ps := []) fun _ _ _ _ _ _ us hl => match us, hl with | [], _ => rfl)
abbrev N_law : List Str := ["script", "draw", "turn", "one", "page", "told", "k", "bent"]
theorem sc_law : FnScope N_law ["script"] (defScope s_law) := ⟨rfl, rfl, rfl, by decide +kernel, rfl, by decide +kernel, by decide +kernel⟩
def spLaw (K : Frag) (D : Ad) : Sp := sp1 fun x H Q _ => ∃ (a : Addr) (ns : List Int), x = .ref a ∧ SqL K H a (ns.map V.int) ∧ ns.length ≤ 63 ∧ Tabs (TABS D) H ∧ ∀ H', Q (.bl true) H'
theorem fb_law (T : Txt P K mg base D) : ∃ fd, Fun K "law" "law" s_law D.law fd ∧ FnB P w K mg base 11 D.law fd ["script"] (spLaw K D) := by
  obtain ⟨fd, F⟩ := T.f_law
  refine ⟨fd, F, Fun_okB (k := 10) F sc_law fun cdv A outer s H vs Q E hr hg h => ?_⟩
  have nd := sc_law.nd
  obtain ⟨x, rfl, a, ns, rfl, hs, hl, hT, hq⟩ := h
  refine ⟨_, (pss_cons (ps_set (i := 1) nd rfl (.inl rfl) (pe_callG (ok__law_begin T) (hr.mono (by decide)) hg (takes_of rfl rfl rfl rfl) rfl T.g__law_begin T.k__law_begin (pa_cons (pv 0) pa_nil)))
        (pss_cons (ps_for (passes_of rfl) rfl (pi_range1 rfl T.n_range (pa_cons (pe_op op_add pe_int (pe_callB (call_min2 rfl) rfl T.n_min (by decide +kernel) (pa_cons pe_int (pa_cons (pe_op op_mulW pe_int (pe_callB call_len rfl T.n_len (by decide +kernel) (pa_cons (pv 0) pa_nil))) pa_nil)))) pa_nil)) (pg_name (i := 2) nd rfl (.inl rfl)) (pss_cons (ps_set (i := 3) nd rfl (.inl rfl) (pe_callG (ok__law_value T) (hr.mono (by decide)) hg (takes_of rfl rfl rfl rfl) rfl T.g__law_value T.k__law_value (pa_cons (pv 1) pa_nil)))
        (pss_cons (ps_set (i := 4) nd rfl (.inl rfl) (pe_callG (ok__law_written T) (hr.mono (by decide)) hg (takes_of rfl rfl rfl rfl) rfl T.g__law_written T.k__law_written (pa_cons (pv 3) pa_nil)))
        (pss_cons (ps_set (i := 5) nd rfl (.inl rfl) (pe_lst (pa_cons (pe_callG (ok_parse_number T) (hr.mono (by decide)) hg (takes_of rfl rfl rfl rfl) rfl T.g_parse_number T.k_parse_number (pa_cons (pv 4) pa_nil)) (pa_cons (pe_callGK0 (ok_parse_number_text T) (hr.mono (by decide)) hg (takes_of rfl rfl rfl rfl) rfl T.g_parse_number T.k_parse_number (pk_cons (pv 4) pk_nil)) (pa_cons (pe_callG (ok_number_text T) (hr.mono (by decide)) hg (takes_of rfl rfl rfl rfl) rfl T.g_number_text T.k_number_text (pa_cons (pv 3) pa_nil)) (pa_cons (pe_callGK0 (ok_number_text_value T) (hr.mono (by decide)) hg (takes_of rfl rfl rfl rfl) rfl T.g_number_text T.k_number_text (pk_cons (pv 3) pk_nil)) pa_nil))))))
        (pss_cons (ps_if (pt_cmpR op_ne (pe_callB (call_reprD hr hg) rfl T.n_repr (by decide +kernel) (pa_cons (pv 5) pa_nil)) (pe_callB (call_reprD hr hg) rfl T.n_repr (by decide +kernel) (pa_cons (pe_lst (pa_cons (pv 3) (pa_cons (pv 3) (pa_cons (pv 4) (pa_cons (pv 4) pa_nil))))) pa_nil)) (nomark _)) (pss_one (ps_ret pe_bl)) pss_nil)
        (pss_one (ps_for (passes_of rfl) rfl (pi_range1 rfl T.n_range (pa_cons pe_int pa_nil)) (pg_name (i := 6) nd rfl (.inl rfl)) (pss_cons (ps_set (i := 7) nd rfl (.inl rfl) (pe_callG (ok__law_bent T) (hr.mono (by decide)) hg (takes_of rfl rfl rfl rfl) rfl T.g__law_bent T.k__law_bent (pa_cons (pv 1) (pa_cons (pv 4) pa_nil))))
        (pss_one (ps_if (PW.pt (pw_or (pt_not (pt_val (pe_callG (ok__law_judged T) (hr.mono (by decide)) hg (takes_of rfl rfl rfl rfl) rfl T.g__law_judged T.k__law_judged (pa_cons (pv 7) pa_nil)))) (pw_or1 (pt_not (pt_val (pe_callG (ok__law_judged T) (hr.mono (by decide)) hg (takes_of rfl rfl rfl rfl) rfl T.g__law_judged T.k__law_judged (pa_cons (pe_callG (ok__law_bent T) (hr.mono (by decide)) hg (takes_of rfl rfl rfl rfl) rfl T.g__law_bent T.k__law_bent (pa_cons (pv 1) (pa_cons (pv 7) pa_nil))) pa_nil))))))) (pss_one (ps_ret pe_bl)) pss_nil))))))))))
        (pss_one (ps_ret (pe_callG0 (ok__law_chosen_right T) (hr.mono (by decide)) hg (takes_of rfl rfl rfl rfl) rfl T.g__law_chosen_right T.k__law_chosen_right))))), ?_⟩
  refine ⟨_, rfl, _, rfl, a, ns, rfl, hs, hl, fun d H1 hd e1 D1 => ?_⟩
  have hsl : SqL K H1 a (ns.map V.int) := (Car.ex e1).l hs
  have hml : (ns.map V.int).length = ns.length := List.length_map ..
  have T1 := hT.ext e1
  have bl : Bd 10 (((ns.map V.int).length : Nat) : Int) := by
    unfold Bd
    rw [hml, Int.natAbs_natCast]
    omega
  refine ⟨_, rfl, _, _, rfl, .inl ⟨_, hsl, rfl⟩, _, _, rfl, rfl, Bd.mulW (m := 2) (by unfold Bd; decide) bl, _, _, rfl, _, _, rfl, rfl, _, rfl, ?_⟩
  rw [hml]
  have hb : 0 ≤ 8 + (if 2 * (ns.length : Int) < 8 then 2 * (ns.length : Int) else 8) ∧ 8 + (if 2 * (ns.length : Int) < 8 then 2 * (ns.length : Int) else 8) ≤ 16 := by split <;> omega
  refine ⟨by omega, by omega, for_range (lo := 0) (fun i σ H' => ∃ t o p tl k b, σ = [some (.ref a), some (.ref d), t, o, p, tl, k, b] ∧ DrawAt K H' d (200 * i) ∧ Tabs (TABS D) H') ⟨_, _, _, _, _, _, rfl, D1, T1⟩ ?_ ?_⟩
  · rintro i σ H0 hi ⟨t, o, pp, tl, k, b, rfl, D0, T0⟩
    have hi' : i < 17 := by omega
    refine ⟨_, rfl, _, rfl, d, _, rfl, D0, by omega, fun p q tt H2 inum hp hq' h2 D2 e2 => ?_⟩
    have T2 := Rm.Tabs.exb T0 D0 e2
    have l1 := (g400_bd hp).log (by decide)
    have l2 := (g400_bd hq').log (by decide)
    have l1' : p.natAbs.log2 < 1920 := by omega
    have l2' : q.natAbs.log2 < 1920 := by omega
    have n2 : NumAt K H2 (.ref tt) p q := ⟨tt, rfl, SqT.of h2⟩
    have htl := ntext_len (a := p) (b := q) l1' l2'
    have hok := okL_text p q
    have htx : Rm.numOf (TL.tl (ntext p q)) = some (p, q) := numOf_text inum hp hq'
    refine ⟨_, rfl, _, rfl, p, q, n2, l1', l2', ?_⟩
    have hz : ∀ z, PyData.str (ntext p q) = .str z → z.length ≤ 16000000 := fun z e => by cases e; omega
    have hn0 : txtNum (.str (ntext p q)) ≠ none := fun z => by
      have z : Rm.numOf (TL.tl (ntext p q)) = none := z
      rw [htx] at z
      cases z
    refine ⟨_, rfl, _, rfl, .str (ntext p q), .str _, hz, fun z => absurd z hn0, fun p1 q1 hs1 a1 H3 ha1 e3 h3 => ?_⟩
    obtain ⟨rfl, rfl⟩ : p = p1 ∧ q = q1 := by
      have z : Rm.numOf (TL.tl (ntext p q)) = some (p1, q1) := hs1
      rw [htx] at z
      cases z
      exact ⟨rfl, rfl⟩
    refine ⟨_, rfl, rfl, rfl, _, rfl, .str (ntext p q), .str _, hz, fun z => absurd z hn0, fun p2 q2 hs2 a2 H4 ha2 e4 h4 => ?_⟩
    obtain ⟨rfl, rfl⟩ : p = p2 ∧ q = q2 := by
      have z : Rm.numOf (TL.tl (ntext p q)) = some (p2, q2) := hs2
      rw [htx] at z
      cases z
      exact ⟨rfl, rfl⟩
    have n4 := n2.c (Car.ex (e3.trans e4))
    refine ⟨_, rfl, _, rfl, _, n4.d, (fun z => by rw [isNumD_is inum] at z; cases z), fun p3 q3 ep3 _ => ?_⟩
    cases ep3
    refine ⟨l1', l2', fun H5 e5 => ?_⟩
    refine ⟨_, rfl, rfl, rfl, _, rfl, _, (n4.c (Car.ex e5)).d, (fun z => by rw [isNumD_is inum] at z; cases z), fun p3 q3 ep3 _ => ?_⟩
    cases ep3
    refine ⟨l1', l2', fun H6 e6 => ⟨sz5 (by simp), fun l7 hl7 => ?_⟩⟩
    have e46 := e5.trans e6
    have e36 := e4.trans e46
    have e26 := e3.trans e36
    have f7 := Evl.Ex.new (o := .lst [.ref a1, .ref a2, .str (ntext p q), .str (ntext p q)]) hl7
    have da1 := (Car.ex (e36.trans f7)).d (NumAt.new (K := K) h3).d
    have da2 := (Car.ex (e46.trans f7)).d (NumAt.new (K := K) h4).d
    have dtt := (Car.ex (e26.trans f7)).d n2.d
    have gn : Gd 1 41000 (.tuple [.int p, .int q]) := (Gd.pair (Gd.int ((g400_bd hp).mono (by decide))) (Gd.int ((g400_bd hq').mono (by decide)))).mono (by decide) (by decide)
    have gt : Gd 1 41000 (.str (ntext p q)) := (Gd.text (l := TL.tl (ntext p q)) (S_tl _).symm hok (by rw [← TL.len_tl]; exact htl)).mono (by decide) (by decide)
    have g4 : Gd 100 16000000 (.list [.tuple [.int p, .int q], .tuple [.int p, .int q], .str (ntext p q), .str (ntext p q)]) := (Gd.lst (k := 1) (m := 41000) (fun x hx => by
      simp only [List.mem_cons, List.not_mem_nil, or_false] at hx
      rcases hx with rfl | rfl | rfl | rfl
      · exact gn
      · exact gn
      · exact gt
      · exact gt)).mono (by decide) (by simp)
    refine ⟨_, rfl, _, _, rfl, .lst (SqL.of upd_same) (.cons da1 (.cons da2 (.cons (.str _) (.cons (.str _) .nil)))), g4.s, g4.n, g4.p, g4.l, _, rfl, _, rfl, _, rfl, _, rfl, sz5 (by simp), fun l8 hl8 => ?_⟩
    have f8 := Evl.Ex.new (o := .lst [.ref tt, .ref tt, .str (ntext p q), .str (ntext p q)]) hl8
    refine ⟨_, _, rfl, Dp.lstN (K := K) hl8 (.cons dtt (.cons dtt (.cons (.str _) (.cons (.str _) .nil)))), g4.s, g4.n, g4.p, g4.l, rfl, _, rfl, iteB (fun c => absurd c (by simp)) (fun _ => ?_)⟩
    have e28 := e26.trans (f7.trans f8)
    have D8 := D2.ex e28
    have T8 := LamX.Tabs.ext T2 e28
    generalize upd (upd H6 l7 (.lst [.ref a1, .ref a2, .str (ntext p q), .str (ntext p q)])) l8 (.lst [.ref tt, .ref tt, .str (ntext p q), .str (ntext p q)]) = H8 at *
    have hS : V.str (ntext p q) = V.str (S (TL.tl (ntext p q))) := congrArg V.str (S_tl _).symm
    have hlt : (TL.tl (ntext p q)).length ≤ 4000 := by rw [← TL.len_tl]; exact htl
    refine ⟨5, rfl, by decide, by decide, for_range (lo := 0) (n := 5) (fun j σ H' => ∃ tl k b, σ = [some (.ref a), some (.ref d), some (.int (0 + (i : Int))), some (.ref tt), some (.str (ntext p q)), tl, k, b] ∧ DrawAt K H' d (200 * i + 20 + 20 * j) ∧ Tabs (TABS D) H') ⟨_, _, _, rfl, D8.mono (by omega), T8⟩ ?_ ?_⟩
    · rintro j σ G hj ⟨tl, k, b, rfl, DG, TG⟩
      refine ⟨_, rfl, _, rfl, _, _, rfl, d, _, TL.tl (ntext p q), rfl, hS, DG, by omega, by omega, hok, fun r G1 hr hrk DG1 eg1 => ?_⟩
      refine ⟨_, rfl, _, rfl, r, rfl, by omega, hrk, Rm.Tabs.exb TG DG eg1, fun G2 x2 T2' => ⟨_, rfl, iteF ?_⟩⟩
      have DG2 := DG1.extN x2
      refine ⟨_, rfl, _, rfl, _, _, rfl, d, _, r, rfl, rfl, DG2, by omega, by omega, hrk, fun r2 G3 hr2 hrk2 DG3 eg3 => ?_⟩
      refine ⟨_, rfl, r2, rfl, by omega, hrk2, Rm.Tabs.exb T2' DG2 eg3, fun G4 x4 T4 => ⟨_, rfl, iteF ?_⟩⟩
      exact ⟨_, _, _, rfl, (DG3.extN x4).mono (by omega), T4⟩
    · rintro σ G ⟨tl, k, b, rfl, DG, TG⟩
      exact ⟨_, _, _, _, _, _, rfl, DG.mono (by omega), TG⟩
  · rintro σ G ⟨t, o, pp, tl, k, b, rfl, DG, TG⟩
    exact ⟨rfl, TG, fun H' _ _ => hq H'⟩
theorem ok_law (T : Txt P K mg base D) : CallG P w K mg base 11 D.law [] (spLaw K D) := by
  obtain ⟨fd, F, B⟩ := fb_law (w := w) (base := base) T
  exact B.pos sp1_len (F.binds (ps := ["script"]) fun _ _ _ _ _ _ us hl => match us, hl with | [_], _ => rfl)
end
def dfs : List He.DefD := [⟨("is_integer", none), "is_integer", "is_integer", defArgs s_is_integer, defBody s_is_integer, defScope s_is_integer, [], []⟩,
  ⟨("common_divisor", none), "common_divisor", "common_divisor", defArgs s_common_divisor, defBody s_common_divisor, defScope s_common_divisor, [], []⟩,
  ⟨("is_number", none), "is_number", "is_number", defArgs s_is_number, defBody s_is_number, defScope s_is_number, [], []⟩,
  ⟨("check_numbers", none), "check_numbers", "check_numbers", defArgs s_check_numbers, defBody s_check_numbers, defScope s_check_numbers, [], []⟩,
  ⟨("number_text", none), "number_text", "number_text", defArgs s_number_text, defBody s_number_text, defScope s_number_text, [], []⟩,
  ⟨("integer_of", none), "integer_of", "integer_of", defArgs s_integer_of, defBody s_integer_of, defScope s_integer_of, [], []⟩,
  ⟨("number_of", none), "number_of", "number_of", defArgs s_number_of, defBody s_number_of, defScope s_number_of, [], []⟩,
  ⟨("parse_number", none), "parse_number", "parse_number", defArgs s_parse_number, defBody s_parse_number, defScope s_parse_number, [], []⟩,
  ⟨("_law_begin", none), "_law_begin", "_law_begin", defArgs s__law_begin, defBody s__law_begin, defScope s__law_begin, [], []⟩,
  ⟨("_law_mixed", none), "_law_mixed", "_law_mixed", defArgs s__law_mixed, defBody s__law_mixed, defScope s__law_mixed, [], []⟩,
  ⟨("_law_next", none), "_law_next", "_law_next", defArgs s__law_next, defBody s__law_next, defScope s__law_next, [], []⟩,
  ⟨("_law_least", none), "_law_least", "_law_least", defArgs s__law_least, defBody s__law_least, defScope s__law_least, [], []⟩,
  ⟨("_law_choose", none), "_law_choose", "_law_choose", defArgs s__law_choose, defBody s__law_choose, defScope s__law_choose, [], []⟩,
  ⟨("_law_written", none), "_law_written", "_law_written", defArgs s__law_written, defBody s__law_written, defScope s__law_written, [], []⟩,
  ⟨("_law_is_digits", none), "_law_is_digits", "_law_is_digits", defArgs s__law_is_digits, defBody s__law_is_digits, defScope s__law_is_digits, [], []⟩,
  ⟨("_law_number_of", none), "_law_number_of", "_law_number_of", defArgs s__law_number_of, defBody s__law_number_of, defScope s__law_number_of, [], []⟩,
  ⟨("_law_told", none), "_law_told", "_law_told", defArgs s__law_told, defBody s__law_told, defScope s__law_told, [], []⟩,
  ⟨("_law_marks", none), "_law_marks", "_law_marks", defArgs s__law_marks, defBody s__law_marks, defScope s__law_marks, [], []⟩,
  ⟨("_law_value", none), "_law_value", "_law_value", defArgs s__law_value, defBody s__law_value, defScope s__law_value, [], []⟩,
  ⟨("_law_bent", none), "_law_bent", "_law_bent", defArgs s__law_bent, defBody s__law_bent, defScope s__law_bent, [], []⟩,
  ⟨("_law_judged", none), "_law_judged", "_law_judged", defArgs s__law_judged, defBody s__law_judged, defScope s__law_judged, [], []⟩,
  ⟨("_law_chosen_right", none), "_law_chosen_right", "_law_chosen_right", defArgs s__law_chosen_right, defBody s__law_chosen_right, defScope s__law_chosen_right, [], []⟩,
  ⟨("law", none), "law", "law", defArgs s_law, defBody s_law, defScope s_law, [], []⟩]
def fas_0 : List He.Fa := [.glo "is_integer",
  .glo "common_divisor",
  .glo "is_number",
  .glo "check_numbers",
  .glo "number_text",
  .glo "integer_of",
  .glo "number_of",
  .glo "parse_number",
  .glo "_law_begin",
  .glo "_law_mixed",
  .glo "_law_next",
  .glo "_law_least",
  .glo "_law_choose",
  .glo "_law_written",
  .glo "_law_is_digits",
  .glo "_law_number_of",
  .glo "_law_told",
  .glo "_law_marks",
  .glo "_law_value",
  .glo "_law_bent",
  .glo "_law_judged",
  .glo "_law_chosen_right",
  .glo "law",
  .free "abs",
  .free "all",
  .free "bool",
  .free "int",
  .free "isinstance",
  .free "len",
  .free "list"]
def fas_1 : List He.Fa := [.free "min",
  .free "range",
  .free "repr",
  .free "str",
  .free "tuple",
  .glo "InvalidNumber",
  .glo "InvalidText",
  .glo "MissingError",
  .glo "PaceError",
  .glo "StateError",
  .str "DIGITS" "0123456789",
  .int "MOST_DIGITS" (420)]
def fas : List He.Fa := fas_0 ++ fas_1
def xds : List XiD := [⟨"InvalidNumber", "ValueError", "ValueError.__new__", "ValueError.__init__", "thing", "InvalidNumber.__init__", clsDef (top 2)⟩,
  ⟨"InvalidText", "ValueError", "ValueError.__new__", "ValueError.__init__", "line", "InvalidText.__init__", clsDef (top 3)⟩]
def tfs : List He.Defn := [("_law_judged", none),
  ("_law_chosen_right", none)]
def adK (K : Frag) : Ad := ⟨He.ga K "is_integer", He.ga K "common_divisor", He.ga K "is_number", He.ga K "check_numbers", He.ga K "number_text", He.ga K "integer_of", He.ga K "number_of", He.ga K "parse_number", He.ga K "_law_begin", He.ga K "_law_mixed", He.ga K "_law_next", He.ga K "_law_least", He.ga K "_law_choose", He.ga K "_law_written", He.ga K "_law_is_digits", He.ga K "_law_number_of", He.ga K "_law_told", He.ga K "_law_marks", He.ga K "_law_value", He.ga K "_law_bent", He.ga K "_law_judged", He.ga K "_law_chosen_right", He.ga K "law", He.ga K "InvalidNumber", He.ga K "InvalidText", He.ga K "MissingError", He.ga K "PaceError", He.ga K "StateError", (He.cT K ("_law_judged", none)).1, (He.cT K ("_law_judged", none)).2, (He.cT K ("_law_chosen_right", none)).1, (He.cT K ("_law_chosen_right", none)).2⟩
def exB (K : Frag) : Bool := xiAll K && (xds.all (fun d => xiOk K PySem.Challenge.pw_roompace_k40_texts_of_numbers.main.file d) && (decide (exmAny K (.ref (He.ga K "InvalidText")) [.ref (He.ga K "PaceError"), .ref (He.ga K "StateError"), .ref (He.ga K "MissingError")] = some true) && (decide (kitOne K (.ref (He.ga K "InvalidText")) (.ref (He.ga K "InvalidText")) = some true) && (decide ((He.cT K ("_law_judged", none)).2 ≠ (He.cT K ("_law_chosen_right", none)).2)))))
theorem xt_InvalidNumber : XiT PySem.Challenge.pw_roompace_k40_texts_of_numbers.main.file ⟨"InvalidNumber", "ValueError", "ValueError.__new__", "ValueError.__init__", "thing", "InvalidNumber.__init__", clsDef (top 2)⟩ := ⟨⟨_, _, _, _, _, _, _, _, _, _, _, _, rfl, fun _ _ _ _ => ⟨_, rfl⟩⟩, rfl, fun _ _ _ _ _ _ _ _ _ _ => .of_eq rfl, fun _ _ _ _ _ _ _ _ _ _ => .of_eq rfl, rfl, rfl, rfl, rfl, by decide +kernel, rfl, rfl, rfl, by decide, by decide, by decide⟩
theorem xt_InvalidText : XiT PySem.Challenge.pw_roompace_k40_texts_of_numbers.main.file ⟨"InvalidText", "ValueError", "ValueError.__new__", "ValueError.__init__", "line", "InvalidText.__init__", clsDef (top 3)⟩ := ⟨⟨_, _, _, _, _, _, _, _, _, _, _, _, rfl, fun _ _ _ _ => ⟨_, rfl⟩⟩, rfl, fun _ _ _ _ _ _ _ _ _ _ => .of_eq rfl, fun _ _ _ _ _ _ _ _ _ _ => .of_eq rfl, rfl, rfl, rfl, rfl, by decide +kernel, rfl, rfl, rfl, by decide, by decide, by decide⟩
theorem df_is_integer {K : Frag} (c : He.SaysD fas dfs K) : ∃ fd, FunD K "is_integer" "is_integer" (defArgs s_is_integer) (defBody s_is_integer) (defScope s_is_integer) [] [] (He.ga K "is_integer") fd := c.def_ 0 (d := ⟨("is_integer", none), "is_integer", "is_integer", defArgs s_is_integer, defBody s_is_integer, defScope s_is_integer, [], []⟩) rfl
theorem df_common_divisor {K : Frag} (c : He.SaysD fas dfs K) : ∃ fd, FunD K "common_divisor" "common_divisor" (defArgs s_common_divisor) (defBody s_common_divisor) (defScope s_common_divisor) [] [] (He.ga K "common_divisor") fd := c.def_ 1 (d := ⟨("common_divisor", none), "common_divisor", "common_divisor", defArgs s_common_divisor, defBody s_common_divisor, defScope s_common_divisor, [], []⟩) rfl
theorem df_is_number {K : Frag} (c : He.SaysD fas dfs K) : ∃ fd, FunD K "is_number" "is_number" (defArgs s_is_number) (defBody s_is_number) (defScope s_is_number) [] [] (He.ga K "is_number") fd := c.def_ 2 (d := ⟨("is_number", none), "is_number", "is_number", defArgs s_is_number, defBody s_is_number, defScope s_is_number, [], []⟩) rfl
theorem df_check_numbers {K : Frag} (c : He.SaysD fas dfs K) : ∃ fd, FunD K "check_numbers" "check_numbers" (defArgs s_check_numbers) (defBody s_check_numbers) (defScope s_check_numbers) [] [] (He.ga K "check_numbers") fd := c.def_ 3 (d := ⟨("check_numbers", none), "check_numbers", "check_numbers", defArgs s_check_numbers, defBody s_check_numbers, defScope s_check_numbers, [], []⟩) rfl
theorem df_number_text {K : Frag} (c : He.SaysD fas dfs K) : ∃ fd, FunD K "number_text" "number_text" (defArgs s_number_text) (defBody s_number_text) (defScope s_number_text) [] [] (He.ga K "number_text") fd := c.def_ 4 (d := ⟨("number_text", none), "number_text", "number_text", defArgs s_number_text, defBody s_number_text, defScope s_number_text, [], []⟩) rfl
theorem df_integer_of {K : Frag} (c : He.SaysD fas dfs K) : ∃ fd, FunD K "integer_of" "integer_of" (defArgs s_integer_of) (defBody s_integer_of) (defScope s_integer_of) [] [] (He.ga K "integer_of") fd := c.def_ 5 (d := ⟨("integer_of", none), "integer_of", "integer_of", defArgs s_integer_of, defBody s_integer_of, defScope s_integer_of, [], []⟩) rfl
theorem df_number_of {K : Frag} (c : He.SaysD fas dfs K) : ∃ fd, FunD K "number_of" "number_of" (defArgs s_number_of) (defBody s_number_of) (defScope s_number_of) [] [] (He.ga K "number_of") fd := c.def_ 6 (d := ⟨("number_of", none), "number_of", "number_of", defArgs s_number_of, defBody s_number_of, defScope s_number_of, [], []⟩) rfl
theorem df_parse_number {K : Frag} (c : He.SaysD fas dfs K) : ∃ fd, FunD K "parse_number" "parse_number" (defArgs s_parse_number) (defBody s_parse_number) (defScope s_parse_number) [] [] (He.ga K "parse_number") fd := c.def_ 7 (d := ⟨("parse_number", none), "parse_number", "parse_number", defArgs s_parse_number, defBody s_parse_number, defScope s_parse_number, [], []⟩) rfl
theorem df__law_begin {K : Frag} (c : He.SaysD fas dfs K) : ∃ fd, FunD K "_law_begin" "_law_begin" (defArgs s__law_begin) (defBody s__law_begin) (defScope s__law_begin) [] [] (He.ga K "_law_begin") fd := c.def_ 8 (d := ⟨("_law_begin", none), "_law_begin", "_law_begin", defArgs s__law_begin, defBody s__law_begin, defScope s__law_begin, [], []⟩) rfl
theorem df__law_mixed {K : Frag} (c : He.SaysD fas dfs K) : ∃ fd, FunD K "_law_mixed" "_law_mixed" (defArgs s__law_mixed) (defBody s__law_mixed) (defScope s__law_mixed) [] [] (He.ga K "_law_mixed") fd := c.def_ 9 (d := ⟨("_law_mixed", none), "_law_mixed", "_law_mixed", defArgs s__law_mixed, defBody s__law_mixed, defScope s__law_mixed, [], []⟩) rfl
theorem df__law_next {K : Frag} (c : He.SaysD fas dfs K) : ∃ fd, FunD K "_law_next" "_law_next" (defArgs s__law_next) (defBody s__law_next) (defScope s__law_next) [] [] (He.ga K "_law_next") fd := c.def_ 10 (d := ⟨("_law_next", none), "_law_next", "_law_next", defArgs s__law_next, defBody s__law_next, defScope s__law_next, [], []⟩) rfl
theorem df__law_least {K : Frag} (c : He.SaysD fas dfs K) : ∃ fd, FunD K "_law_least" "_law_least" (defArgs s__law_least) (defBody s__law_least) (defScope s__law_least) [] [] (He.ga K "_law_least") fd := c.def_ 11 (d := ⟨("_law_least", none), "_law_least", "_law_least", defArgs s__law_least, defBody s__law_least, defScope s__law_least, [], []⟩) rfl
theorem df__law_choose {K : Frag} (c : He.SaysD fas dfs K) : ∃ fd, FunD K "_law_choose" "_law_choose" (defArgs s__law_choose) (defBody s__law_choose) (defScope s__law_choose) [] [] (He.ga K "_law_choose") fd := c.def_ 12 (d := ⟨("_law_choose", none), "_law_choose", "_law_choose", defArgs s__law_choose, defBody s__law_choose, defScope s__law_choose, [], []⟩) rfl
theorem df__law_written {K : Frag} (c : He.SaysD fas dfs K) : ∃ fd, FunD K "_law_written" "_law_written" (defArgs s__law_written) (defBody s__law_written) (defScope s__law_written) [] [] (He.ga K "_law_written") fd := c.def_ 13 (d := ⟨("_law_written", none), "_law_written", "_law_written", defArgs s__law_written, defBody s__law_written, defScope s__law_written, [], []⟩) rfl
theorem df__law_is_digits {K : Frag} (c : He.SaysD fas dfs K) : ∃ fd, FunD K "_law_is_digits" "_law_is_digits" (defArgs s__law_is_digits) (defBody s__law_is_digits) (defScope s__law_is_digits) [] [] (He.ga K "_law_is_digits") fd := c.def_ 14 (d := ⟨("_law_is_digits", none), "_law_is_digits", "_law_is_digits", defArgs s__law_is_digits, defBody s__law_is_digits, defScope s__law_is_digits, [], []⟩) rfl
theorem df__law_number_of {K : Frag} (c : He.SaysD fas dfs K) : ∃ fd, FunD K "_law_number_of" "_law_number_of" (defArgs s__law_number_of) (defBody s__law_number_of) (defScope s__law_number_of) [] [] (He.ga K "_law_number_of") fd := c.def_ 15 (d := ⟨("_law_number_of", none), "_law_number_of", "_law_number_of", defArgs s__law_number_of, defBody s__law_number_of, defScope s__law_number_of, [], []⟩) rfl
theorem df__law_told {K : Frag} (c : He.SaysD fas dfs K) : ∃ fd, FunD K "_law_told" "_law_told" (defArgs s__law_told) (defBody s__law_told) (defScope s__law_told) [] [] (He.ga K "_law_told") fd := c.def_ 16 (d := ⟨("_law_told", none), "_law_told", "_law_told", defArgs s__law_told, defBody s__law_told, defScope s__law_told, [], []⟩) rfl
theorem df__law_marks {K : Frag} (c : He.SaysD fas dfs K) : ∃ fd, FunD K "_law_marks" "_law_marks" (defArgs s__law_marks) (defBody s__law_marks) (defScope s__law_marks) [] [] (He.ga K "_law_marks") fd := c.def_ 17 (d := ⟨("_law_marks", none), "_law_marks", "_law_marks", defArgs s__law_marks, defBody s__law_marks, defScope s__law_marks, [], []⟩) rfl
theorem df__law_value {K : Frag} (c : He.SaysD fas dfs K) : ∃ fd, FunD K "_law_value" "_law_value" (defArgs s__law_value) (defBody s__law_value) (defScope s__law_value) [] [] (He.ga K "_law_value") fd := c.def_ 18 (d := ⟨("_law_value", none), "_law_value", "_law_value", defArgs s__law_value, defBody s__law_value, defScope s__law_value, [], []⟩) rfl
theorem df__law_bent {K : Frag} (c : He.SaysD fas dfs K) : ∃ fd, FunD K "_law_bent" "_law_bent" (defArgs s__law_bent) (defBody s__law_bent) (defScope s__law_bent) [] [] (He.ga K "_law_bent") fd := c.def_ 19 (d := ⟨("_law_bent", none), "_law_bent", "_law_bent", defArgs s__law_bent, defBody s__law_bent, defScope s__law_bent, [], []⟩) rfl
theorem df__law_judged {K : Frag} (c : He.SaysD fas dfs K) : ∃ fd, FunD K "_law_judged" "_law_judged" (defArgs s__law_judged) (defBody s__law_judged) (defScope s__law_judged) [] [] (He.ga K "_law_judged") fd := c.def_ 20 (d := ⟨("_law_judged", none), "_law_judged", "_law_judged", defArgs s__law_judged, defBody s__law_judged, defScope s__law_judged, [], []⟩) rfl
theorem df__law_chosen_right {K : Frag} (c : He.SaysD fas dfs K) : ∃ fd, FunD K "_law_chosen_right" "_law_chosen_right" (defArgs s__law_chosen_right) (defBody s__law_chosen_right) (defScope s__law_chosen_right) [] [] (He.ga K "_law_chosen_right") fd := c.def_ 21 (d := ⟨("_law_chosen_right", none), "_law_chosen_right", "_law_chosen_right", defArgs s__law_chosen_right, defBody s__law_chosen_right, defScope s__law_chosen_right, [], []⟩) rfl
theorem df_law {K : Frag} (c : He.SaysD fas dfs K) : ∃ fd, FunD K "law" "law" (defArgs s_law) (defBody s_law) (defScope s_law) [] [] (He.ga K "law") fd := c.def_ 22 (d := ⟨("law", none), "law", "law", defArgs s_law, defBody s_law, defScope s_law, [], []⟩) rfl
theorem mkT {K : Frag} {h : Heap} {mg : Str → Option Value} (base : Heap) (X : K.In h) (G : h.Ns mainGlobals mg) (c : SaysR fas dfs xds tfs exB h K) (TB : ∀ p ∈ tfs.map (He.cT K), TabB base mg p.1 p.2) : Txt PySem.Challenge.pw_roompace_k40_texts_of_numbers K mg base (adK K) := by
  have ex := c.more
  unfold exB at ex
  obtain ⟨ea, ex⟩ := He.ba ex
  obtain ⟨ex0, ex⟩ := He.ba ex
  obtain ⟨e_InvalidText, ex⟩ := He.ba ex
  replace e_InvalidText := of_decide_eq_true e_InvalidText
  obtain ⟨i_InvalidText, ex⟩ := He.ba ex
  replace i_InvalidText := of_decide_eq_true i_InvalidText
  have np__law_judged__law_chosen_right := ex
  replace np__law_judged__law_chosen_right := of_decide_eq_true np__law_judged__law_chosen_right
  have b_InvalidNumber := xb_of (P := PySem.Challenge.pw_roompace_k40_texts_of_numbers) (d := ⟨"InvalidNumber", "ValueError", "ValueError.__new__", "ValueError.__init__", "thing", "InvalidNumber.__init__", clsDef (top 2)⟩) PySem.F.excBase_ValueError kxs_ValueError PySem.F.store_ValueError X G (by decide +kernel) ea (c.xi 0 rfl) (List.all_eq_true.mp ex0 _ (List.mem_of_getElem? (i := 0) rfl)) xt_InvalidNumber
  have b_InvalidText := xb_of (P := PySem.Challenge.pw_roompace_k40_texts_of_numbers) (d := ⟨"InvalidText", "ValueError", "ValueError.__new__", "ValueError.__init__", "line", "InvalidText.__init__", clsDef (top 3)⟩) PySem.F.excBase_ValueError kxs_ValueError PySem.F.store_ValueError X G (by decide +kernel) ea (c.xi 1 rfl) (List.all_eq_true.mp ex0 _ (List.mem_of_getElem? (i := 1) rfl)) xt_InvalidText
  exact {
    f_is_integer := (df_is_integer c.d).imp fun _ F => fun_of F,
    g_is_integer := He.glo_ok X G (c.d.fact 0 (f := .glo "is_integer") rfl),
    k_is_integer := (df_is_integer c.d).choose_spec.kp,
    f_common_divisor := (df_common_divisor c.d).imp fun _ F => fun_of F,
    g_common_divisor := He.glo_ok X G (c.d.fact 1 (f := .glo "common_divisor") rfl),
    k_common_divisor := (df_common_divisor c.d).choose_spec.kp,
    f_is_number := (df_is_number c.d).imp fun _ F => fun_of F,
    g_is_number := He.glo_ok X G (c.d.fact 2 (f := .glo "is_number") rfl),
    k_is_number := (df_is_number c.d).choose_spec.kp,
    f_check_numbers := (df_check_numbers c.d).imp fun _ F => fun_of F,
    g_check_numbers := He.glo_ok X G (c.d.fact 3 (f := .glo "check_numbers") rfl),
    k_check_numbers := (df_check_numbers c.d).choose_spec.kp,
    f_number_text := (df_number_text c.d).imp fun _ F => fun_of F,
    g_number_text := He.glo_ok X G (c.d.fact 4 (f := .glo "number_text") rfl),
    k_number_text := (df_number_text c.d).choose_spec.kp,
    f_integer_of := (df_integer_of c.d).imp fun _ F => fun_of F,
    g_integer_of := He.glo_ok X G (c.d.fact 5 (f := .glo "integer_of") rfl),
    k_integer_of := (df_integer_of c.d).choose_spec.kp,
    f_number_of := (df_number_of c.d).imp fun _ F => fun_of F,
    g_number_of := He.glo_ok X G (c.d.fact 6 (f := .glo "number_of") rfl),
    k_number_of := (df_number_of c.d).choose_spec.kp,
    f_parse_number := (df_parse_number c.d).imp fun _ F => fun_of F,
    g_parse_number := He.glo_ok X G (c.d.fact 7 (f := .glo "parse_number") rfl),
    k_parse_number := (df_parse_number c.d).choose_spec.kp,
    f__law_begin := (df__law_begin c.d).imp fun _ F => fun_of F,
    g__law_begin := He.glo_ok X G (c.d.fact 8 (f := .glo "_law_begin") rfl),
    k__law_begin := (df__law_begin c.d).choose_spec.kp,
    f__law_mixed := (df__law_mixed c.d).imp fun _ F => fun_of F,
    g__law_mixed := He.glo_ok X G (c.d.fact 9 (f := .glo "_law_mixed") rfl),
    k__law_mixed := (df__law_mixed c.d).choose_spec.kp,
    f__law_next := (df__law_next c.d).imp fun _ F => fun_of F,
    g__law_next := He.glo_ok X G (c.d.fact 10 (f := .glo "_law_next") rfl),
    k__law_next := (df__law_next c.d).choose_spec.kp,
    f__law_least := (df__law_least c.d).imp fun _ F => fun_of F,
    g__law_least := He.glo_ok X G (c.d.fact 11 (f := .glo "_law_least") rfl),
    k__law_least := (df__law_least c.d).choose_spec.kp,
    f__law_choose := (df__law_choose c.d).imp fun _ F => fun_of F,
    g__law_choose := He.glo_ok X G (c.d.fact 12 (f := .glo "_law_choose") rfl),
    k__law_choose := (df__law_choose c.d).choose_spec.kp,
    f__law_written := (df__law_written c.d).imp fun _ F => fun_of F,
    g__law_written := He.glo_ok X G (c.d.fact 13 (f := .glo "_law_written") rfl),
    k__law_written := (df__law_written c.d).choose_spec.kp,
    f__law_is_digits := (df__law_is_digits c.d).imp fun _ F => fun_of F,
    g__law_is_digits := He.glo_ok X G (c.d.fact 14 (f := .glo "_law_is_digits") rfl),
    k__law_is_digits := (df__law_is_digits c.d).choose_spec.kp,
    f__law_number_of := (df__law_number_of c.d).imp fun _ F => fun_of F,
    g__law_number_of := He.glo_ok X G (c.d.fact 15 (f := .glo "_law_number_of") rfl),
    k__law_number_of := (df__law_number_of c.d).choose_spec.kp,
    f__law_told := (df__law_told c.d).imp fun _ F => fun_of F,
    g__law_told := He.glo_ok X G (c.d.fact 16 (f := .glo "_law_told") rfl),
    k__law_told := (df__law_told c.d).choose_spec.kp,
    f__law_marks := (df__law_marks c.d).imp fun _ F => fun_of F,
    g__law_marks := He.glo_ok X G (c.d.fact 17 (f := .glo "_law_marks") rfl),
    k__law_marks := (df__law_marks c.d).choose_spec.kp,
    f__law_value := (df__law_value c.d).imp fun _ F => fun_of F,
    g__law_value := He.glo_ok X G (c.d.fact 18 (f := .glo "_law_value") rfl),
    k__law_value := (df__law_value c.d).choose_spec.kp,
    f__law_bent := (df__law_bent c.d).imp fun _ F => fun_of F,
    g__law_bent := He.glo_ok X G (c.d.fact 19 (f := .glo "_law_bent") rfl),
    k__law_bent := (df__law_bent c.d).choose_spec.kp,
    f__law_judged := (df__law_judged c.d).imp fun _ F => ⟨fun_of F, code_of (fun_of F)⟩,
    g__law_judged := He.glo_ok X G (c.d.fact 20 (f := .glo "_law_judged") rfl),
    k__law_judged := (df__law_judged c.d).choose_spec.kp,
    f__law_chosen_right := (df__law_chosen_right c.d).imp fun _ F => ⟨fun_of F, code_of (fun_of F)⟩,
    g__law_chosen_right := He.glo_ok X G (c.d.fact 21 (f := .glo "_law_chosen_right") rfl),
    k__law_chosen_right := (df__law_chosen_right c.d).choose_spec.kp,
    f_law := (df_law c.d).imp fun _ F => fun_of F,
    g_law := He.glo_ok X G (c.d.fact 22 (f := .glo "law") rfl),
    k_law := (df_law c.d).choose_spec.kp,
    n_abs := He.free_ok X G (c.d.fact 23 (f := .free "abs") rfl),
    n_all := He.free_ok X G (c.d.fact 24 (f := .free "all") rfl),
    n_bool := He.free_ok X G (c.d.fact 25 (f := .free "bool") rfl),
    n_int := He.free_ok X G (c.d.fact 26 (f := .free "int") rfl),
    n_isinstance := He.free_ok X G (c.d.fact 27 (f := .free "isinstance") rfl),
    n_len := He.free_ok X G (c.d.fact 28 (f := .free "len") rfl),
    n_list := He.free_ok X G (c.d.fact 29 (f := .free "list") rfl),
    n_min := He.free_ok X G (c.d.fact 30 (f := .free "min") rfl),
    n_range := He.free_ok X G (c.d.fact 31 (f := .free "range") rfl),
    n_repr := He.free_ok X G (c.d.fact 32 (f := .free "repr") rfl),
    n_str := He.free_ok X G (c.d.fact 33 (f := .free "str") rfl),
    n_tuple := He.free_ok X G (c.d.fact 34 (f := .free "tuple") rfl),
    g_InvalidNumber := He.glo_ok X G (c.d.fact 35 (f := .glo "InvalidNumber") rfl),
    k_InvalidNumber := b_InvalidNumber.k,
    x_InvalidNumber := b_InvalidNumber.x,
    z_InvalidNumber := b_InvalidNumber.z,
    t_InvalidNumber := b_InvalidNumber.t,
    h_InvalidNumber := b_InvalidNumber.h,
    g_InvalidText := He.glo_ok X G (c.d.fact 36 (f := .glo "InvalidText") rfl),
    k_InvalidText := b_InvalidText.k,
    x_InvalidText := b_InvalidText.x,
    z_InvalidText := b_InvalidText.z,
    t_InvalidText := b_InvalidText.t,
    h_InvalidText := b_InvalidText.h,
    g_MissingError := He.glo_ok X G (c.d.fact 37 (f := .glo "MissingError") rfl),
    g_PaceError := He.glo_ok X G (c.d.fact 38 (f := .glo "PaceError") rfl),
    g_StateError := He.glo_ok X G (c.d.fact 39 (f := .glo "StateError") rfl),
    g_DIGITS := (He.str_ok X G (c.d.fact 40 (f := .str "DIGITS" "0123456789") rfl)).elim fun t e => ⟨_, e, ⟨t, rfl⟩⟩,
    g_MOST_DIGITS := (He.int_ok X G (c.d.fact 41 (f := .int "MOST_DIGITS" (420)) rfl)).elim fun t e => ⟨_, e, ⟨t, rfl⟩⟩,
    e_InvalidText := e_InvalidText,
    i_InvalidText := i_InvalidText,
    np__law_judged__law_chosen_right := np__law_judged__law_chosen_right,
    tb__law_judged := TB (He.cT K ("_law_judged", none)) (List.mem_map_of_mem (by simp [tfs])),
    tb__law_chosen_right := TB (He.cT K ("_law_chosen_right", none)) (List.mem_map_of_mem (by simp [tfs])) }
def loose : List Str := (["__name__", "PaceError", "InvalidNumber", "InvalidText", "StateError", "MissingError", "is_integer", "common_divisor", "is_number", "check_numbers", "number_text", "DIGITS", "MOST_DIGITS", "integer_of", "number_of", "parse_number", "_law_begin", "_law_mixed", "_law_next", "_law_least", "_law_choose", "_law_written", "_law_is_digits", "_law_number_of", "_law_told", "_law_marks", "_law_value", "_law_bent", "_law_judged", "_law_chosen_right"] : List Str)
abbrev R : OpenRow := OpenLaw.row PySem.Challenge.rw_roompace_k40_texts_of_numbers
abbrev hk : Hook := hookR 6 fas dfs xds tfs exB
def ob (s : SharedT) : AlR := obsR 6 fas dfs xds tfs exB (HandSHeadRun.getT s)
theorem ob_eq (s : SharedT) : ob s = hk.obs s.abs := obsR_eq (HandSHeadRun.getT_eq s)
set_option maxHeartbeats 0 in
theorem run (w : World) : HandSHeadRun.RunEq R (view R.prog [34]) hk ob 20000 loose w := by
  intro os
  kernel_rfl
end K40
open PySem PySem.W PySem.Calls PyProof.Rows
set_option maxRecDepth 100000 in
set_option maxHeartbeats 0 in
theorem PySem.Challenge.cw_roompace_k40_texts_of_numbers_holds : PySem.Challenge.rw_roompace_k40_texts_of_numbers.Holds := by
  w_on; o_law
  refine HandSHeadRun.head_any (r := OpenLaw.row PySem.Challenge.rw_roompace_k40_texts_of_numbers) (q := view (OpenLaw.row PySem.Challenge.rw_roompace_k40_texts_of_numbers).prog [34]) (H := K40.hk) (ob := K40.ob) (M := 20000) (loose := K40.loose) (d := HandSHeadRun.topDef (OpenLaw.row PySem.Challenge.rw_roompace_k40_texts_of_numbers).prog 34) (kwd := []) K40.ob_eq
    (by kernel_rfl) (fun s => by kernel_rfl) K40.run (by kernel_rfl) (by kernel_rfl) (by kernel_rfl) (by rfl) (by first | assumption | decide +kernel) (by decide +kernel) ⟨rfl, rfl, rfl, rfl, rfl, by decide +kernel⟩ ?hw ?hc
  case hw => w_witness2
  case hc =>
    refine Rm.walk_ofGX (l := PySem.Challenge.rw_roompace_k40_texts_of_numbers) (n := 63) (k := 11) rfl (by decide) (by kernel_rfl) ⟨rfl, by decide, by decide⟩ ?F
    intro w mg fa h Y G hmg0
    obtain ⟨K, KX, c⟩ := Y
    have hmg : mg ("law" : PySem.Str) = some (.ref fa) := by
      have e : (HandSHeadRun.topDef (OpenLaw.row PySem.Challenge.rw_roompace_k40_texts_of_numbers).prog 34).name = ("law" : PySem.Str) := by kernel_rfl
      rw [← e]
      exact hmg0
    have e2 := hmg.symm.trans (He.glo_ok KX G (c.d.fact 22 (f := .glo "law") rfl))
    cases e2
    refine ⟨K, K40.tfs.map (He.cT K), K40.spLaw K (K40.adK K), KX, fun p hp => ?_, fun base _ _ TB => K40.ok_law (K40.mkT base KX G c TB), fun H a ns hl _ hT hS => ⟨_, rfl, a, ns, rfl, hS, hl, fun p hp => ?tabs, fun _ => rfl⟩⟩
    case tabs =>
      simp only [K40.TABS, List.mem_cons, List.not_mem_nil, or_false] at hp
      rcases hp with rfl | rfl
      · exact LamX.TabS.nil (hT (He.cT K ("_law_judged", none)) (List.mem_map_of_mem (by simp [K40.tfs])))
      · exact LamX.TabS.nil (hT (He.cT K ("_law_chosen_right", none)) (List.mem_map_of_mem (by simp [K40.tfs])))
    obtain ⟨q, hq, rfl⟩ := List.mem_map.mp hp
    exact ⟨codeHd_of_K KX (c.hd q hq), c.empty q hq, c.out q hq⟩
