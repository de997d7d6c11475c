import PyProof.Rows.All
import Wide.All
import OpenK.AllK
import Wide.FinOn
import PyProof.EqAt
import PyProof.EqKinds
import PyProof.TupleCall
import HandS.ForExc
import HandS.ExcInit
import KE.KExcSuper
import KE.KExcInit
import HandS.ForMost
import HandS.ExcCtx
import HandS.HotCalls
import HandS.IsInst
import KE.KExcIs
import KE.KTryMore
import HandS.Defaults
import HandS.MakeKw
import HandS.Property
import HandS.ExcField
import HandS.Flow
import HandS.FStr
import HandS.Zip
import HandS.StrMore
import HandS.More
import KE.RegKSuper
import KE.KExcLine
import HandS.Hot
import HandS.ExcValue
import HandS.Lambda
import HandS.EndTab
import HandS.EndBits
import KE.KNest
import PySem.Challenge.RW_goesround_k00_numbers_and_errors
import HandS.TupLen
import KE.KDictCopyH
/-! part GxA -/
set_option Elab.async false
set_option linter.all false
set_option maxRecDepth 100000
set_option maxHeartbeats 4000000
/-! An own exception class whose __init__(self, f) says super().__init__('..') and self.f = f: the class called. -/
namespace GX
open PySem PySem.W PySem.Calls PyProof.Rows Builtin Builtin.ObjectAttr
section
variable {prog : Program} {w : World} {M : Model} {A : Around} {E : Value → Shared → Prop} {h : Heap} {g : Array GenState} {d : Drawn} {t : Nat} {os : OsState}

/-- super() in a def's body, at the heap itself -/
theorem sup_node {body : List Stmt} {q : Str} {scope : Scope} {p0 p1 : Pos} {attr : Str} {whole : Sem Value} {fd : FuncData} {ar : Arg} {vs : Array Value} {file : Str} {tf : Tok} {f cda cc x C D L : Addr}
    {of occ oc ox : Obj} {cdD : ClassData} {K : Frag} {m mg mb : Str → Option Value} {s : Shared} {Q : Value → Shared → Prop}
    (X : K.In s.heap) (hn : s.heap.Ns L m) (hg : s.heap.Ns mainGlobals mg) (hb : s.heap.Ns builtinsNs mb) (hsup : mg "super" = none) (hbs : mb "super" = some (.type "super"))
    (hf : s.heap.get? f = some of) (hfd : of.data = .func fd) (hp : (fd.params.posonlyargs ++ fd.params.args).head? = some ar) (hv : m ar.arg = some (.ref x)) (hx : s.heap.get? x = some ox) (hxc : ox.cls = .ref C) (hxn : ∀ c, ox.data ≠ .cls c)
    (hcode : s.heap.get? cda = some occ) (hcd : occ.data = .fields vs) (hvs : vs[2]? = some (.str file tf)) (hfile : ((prog.main.file : Str) == file) = true)
    (hcell : s.heap.get? cc = some oc) (hcl : oc.data = .cell (some (.ref D))) (hD : clsIn K D = some cdD) (hsub : mroIn K C (.ref D) = some true)
    (hat : (attr == ("__class__" : Str)) = false) (hks : scope.names.lookup ("super" : Str) = some .globalImplicit) (hkc : scope.names.lookup ("__class__" : Str) = some .free) (hka : scope.names.lookup ar.arg = some .local) (hk : scope.kind = .function)
    (htop : (prog.main.scope.names.lookup ("super" : Str)).isSome = false)
    (hq : ∀ so h', (∀ b o, s.heap.get? b = some o → h'.get? b = some o) → h'.get? so = some (ks_superObj D x C) → Q (.ref so) { s with heap := h' }) :
    _root_.PySem.wpAt (model prog w) A (.func body (ksEnv q scope L f (.ref cda) cc)) (attributeBase (.Call (.Name "super" p0) [] [] p1) attr (ksEnv q scope L f (.ref cda) cc) whole) Q E s := by
  obtain ⟨hh, g, d, t, os⟩ := s
  obtain ⟨oD, hD1, hD2⟩ : ∃ oD, hh.get? D = some oD ∧ oD.data = .cls cdD := by
    unfold clsIn at hD
    split at hD
    · rename_i c d cd' sl ho
      cases hD
      exact ⟨_, X _ _ ho, rfl⟩
    · cases hD
  refine ks_wpAt_super_base (env := ksEnv q scope L f (.ref cda) cc) hks hkc hat rfl hf hfd hp rfl hcode hcd hvs hfile htop ?_
  refine ks_loadName_global hk hks (loadGlobal_builtin (env := ksEnv q scope L f (.ref cda) cc) hg hsup hb hbs ⟨rfl, ?_⟩)
  refine wpAny_loadName_free hk hkc rfl ⟨_, hcell, hcl⟩ ?_
  refine wpAny_loadName_local hk hka hn hv ?_
  refine ks_wpAny_isType_cls hD1 hD2 ⟨rfl, ?_⟩
  refine ks_wpAny_call_super hD1 hD2 hx hxc hxn (looks_mroIn X hsub) (fun h' e k => ?_)
  exact hq _ _ k e
end

section
variable {prog : Program} {w : World} {M : Model} {A : Around} {E : Value → Shared → Prop} {R : Result → Shared → Prop} {h : Heap} {g : Array GenState} {d : Drawn} {t : Nat} {os : OsState}
/-- the built-in __init__ bound to the exception, called: the args are laid anew -/
theorem mw_call {B newId i : String} {bmB : List Value} {u x t0 C : Addr} {dv : Option Addr} {K : Frag} {rest : List Value} {Q : Value → Shared → Prop} (X : K.In h) (FB : ExcBaseFacts B newId i bmB) (q : excInitIn K C bmB newId = true)
    (hu : h.get? u = some (kxs_mw i x)) (he : h.get? x = some (excObj C t0 dv .none)) (hz : rest.length ≤ sizeLine)
    (hq : ∀ h' t1, (∀ b o, b ≠ x → h.get? b = some o → h'.get? b = some o) → h'.get? x = some (excObj C t1 dv .none) → Q .none ⟨h', g, d, t, os⟩) :
    wpAny (model prog w) A (call (.ref u) rest) Q E ⟨h, g, d, t, os⟩ := by
  obtain ⟨nm, N', qn, bs, bm, hdct, sn, sub, ab, col, dd, k0, k1, k2, k3, k5, hC, hT⟩ := excInit_of X q
  refine wpAny_call (codeAny_of_tree ?_)
  show wpAny _ A.in1 (callAny (.ref u) ⟨rest, []⟩) _ _ _
  simp only [callAny]
  refine wpAny_bind (wpAny_load hu ?_)
  simp only [kxs_mw, show (Value.type "method-wrapper" == Value.type "method" || Value.type "method-wrapper" == Value.type "builtin_function_or_method" || Value.type "method-wrapper" == Value.type "method-wrapper") = true by decide, if_true]
  refine KFB.if_so (by decide) ?_
  refine wpAny_bind (check_bound_init FB.toExcCallFacts hC he rfl ?_)
  refine wpAny_bind (wpAny_pure (wpAny_pure ?_))
  refine ⟨plainId_quiet FB.init.plain _, codeAny_builtin FB.initEntry ?_⟩
  exact exc_init_tree (cls := .ref C) (t0 := t0) (dv := dv) (c2 := .none) (c3 := .none) (b4 := .bool false) he hz fun h' k e' _ => hq h' _ k e'

theorem mw_callWith {i : String} {u x : Addr} {s : Shared} {pos : Pos} {env : Env} {e : Expr} {rest : List Expr} {Q : Value → Shared → Prop}
    (h : wpAny M A (spliced (backTo pos (starEach (e :: rest) env))) (fun vs s₁ => KxsAt i u x s₁.heap ∧ wpAny M A (call (.ref u) vs) Q E s₁) E s)
    (he : starEach (e :: rest) env = (false, eval e env) :: starEach rest env := by rfl) (hplain : (backTo pos (starEach rest env)).any (·.1) = false := by rfl) :
    wpAny M A (callWith pos (.ref u) [] (backTo pos (starEach (e :: rest) env)) []) Q E s := by
  rw [he] at h ⊢
  refine kxs_callWith (i := i) (x := x) (by show (false || (backTo pos (starEach rest env)).any (·.1)) = false; rw [hplain]; rfl) ?_
  exact evalArgs_plain h
/-- a first field stored on an exception of our own -/
theorem set_new {B : String} {bmB : List Value} {K : Frag} {name : Str} {v : Value} {x C t0 : Addr} {Q : Unit → Shared → Prop} (SF : StoreFacts B bmB "object.__setattr__" "object") (X : K.In h) (hx : h.get? x = some (excObj C t0 none .none))
    (hp : excOver K C bmB = true) (sa : findIn K (.ref C) "__setattr__" = some (some (.builtin "object.__setattr__"))) (ha : findIn K (.ref C) name = some none) (hh : hasDictIn K C = true)
    (hq : ∀ h' tk' dx, (∀ b o, b ≠ x → h.get? b = some o → h'.get? b = some o) → h.objs.size ≤ dx → dx ≠ x → h'.get? x = some (excObj C t0 (some dx) .none) → h'.Ns1 dx (fun y => if y = name then some v else none) → Q () ⟨h', g, d, tk', os⟩) :
    wpAny (model prog w) A (setAttr (.ref x) name v) Q E ⟨h, g, d, t, os⟩ := by
  have I : InstAt h x (excObj C t0 none .none) C none := ⟨hx, rfl, rfl, trivial⟩
  have hxs : x ≠ h.objs.size := Nat.ne_of_lt (Heap.lt_size hx)
  refine set_plain X I sa ?_
  refine osa_openX (r := none) SF X I hp (by unfold takerIn; rw [ha]; rfl) fun b => ?_
  obtain ⟨cd, hc, hd⟩ := any_some hh
  have hcls : Looks (model prog w) h (classData C) cd := looks_clsIn X hc
  obtain ⟨nm, bs, mro, ns, qn, hdct, sn, sb, ab, col, del⟩ := cd
  dsimp only at hd
  subst hd
  show wpAny _ _ (storeInOwnDict (.ref x) (.ref C) (.str name _) name v b) _ _ _
  unfold storeInOwnDict ownDictForStores
  repeat (first | with_reducible refine PySem.HandSPX.store_in_new ?_ ?_ | with_reducible refine wpAny_loadPart_at hx ?_ | with_reducible refine hcls.at ?_ | wp_step)
  · exact ⟨_, #[], _, (Heap.get?_update_ne _ _ _ _ hxs.symm).trans (Heap.get?_push_at rfl rfl), rfl, fun e he => absurd he (by simp), fun _ => rfl⟩
  · intro h' tk' hn' hs
    have hx₁ : (h.push { cls := .type "dict", data := .dict #[] }).get? x = some (excObj C t0 none .none) := Heap.get?_push_of_some _ hx
    refine hq h' tk' h.objs.size (fun b o hb ho => ?_) (Nat.le_refl _) hxs.symm ?_ hn'
    · exact (hs.2 b (Nat.ne_of_lt (Heap.lt_size ho))).trans ((Heap.get?_update_ne _ _ _ _ hb).trans (Heap.get?_push_of_some _ ho))
    · exact (hs.2 x hxs).trans (Heap.get?_update_self _ hx₁ rfl)
end

/-- the body: super().__init__(m); self.f = f -/
def exB (p0 p1 p2 p3 p4 p5 q1 q2 q3 q4 : Pos) (j : Nat) (m f : Str) : List Stmt :=
  [.Expr (.Call (.Attribute (.Call (.Name "super" p0) [] [] p1) "__init__" p2) [.Constant (.str m) j p3] [] p4) p5, .Assign [.Attribute (.Name "self" q1) f q2] (.Name f q3) q4]
/-- what the written part says of such a class's __init__ -/
structure ExI (prog : Program) (K : Frag) (C fI : Addr) (f : Str) : Prop where
  at_ : findIn K (.ref C) "__init__" = some (some (.ref fI))
  fn : isFn K (.ref fI) = true
  lk : ∃ (oc : Value) (od : Option Addr) (qual : Str) (params : Arguments) (scope : Scope) (doc pm : Value) (an : Option Addr) (cda : Addr) (ct : Value) (osl : Array (Option Value)) (cc : Addr) (ar : Arg)
      (ccl cl : Value) (cdd cld : Option Addr) (vs : Array Value) (ccs csl : Array (Option Value)) (file : Str) (tf : Tok) (p0 p1 p2 p3 p4 p5 q1 q2 q3 q4 : Pos) (j : Nat) (m : Str),
    K.lookup fI = some ⟨oc, od, .func (ksFn "__init__" qual params (exB p0 p1 p2 p3 p4 p5 q1 q2 q3 q4 j m f) scope .none .none doc pm an (.ref cda) ct cc), osl⟩ ∧ codeIn K (.ref cda) qual = true ∧
    K.lookup cda = some ⟨ccl, cdd, .fields vs, ccs⟩ ∧ vs[2]? = some (.str file tf) ∧ ((prog.main.file : Str) == file) = true ∧ K.lookup cc = some ⟨cl, cld, .cell (some (.ref C)), csl⟩ ∧
    (params.posonlyargs ++ params.args).head? = some ar ∧ ar.arg = "self" ∧
    (∀ us : List Value, us.length = 2 → bindArgs (ksFn "__init__" qual params (exB p0 p1 p2 p3 p4 p5 q1 q2 q3 q4 j m f) scope .none .none doc pm an (.ref cda) ct cc) ⟨us, []⟩ = pure ((["self", f] : List Str).zip us)) ∧
    (∀ x ∈ scope.names, x.2 ≠ .cell) ∧ scope.names.lookup ("self" : Str) = some .local ∧ scope.names.lookup f = some .local ∧ scope.names.lookup ("super" : Str) = some .globalImplicit ∧ scope.names.lookup ("__class__" : Str) = some .free ∧
    scope.isCoroutine = false ∧ scope.isGenerator = false ∧ scope.kind = .function ∧
    ∃ pl : Sem Bool, ∀ env : Env, eval (.Call (.Attribute (.Call (.Name "super" p0) [] [] p1) "__init__" p2) [.Constant (.str m) j p3] [] p4) env = (do
      let ov ← attributeBase (.Call (.Name "super" p0) [] [] p1) "__init__" env (eval (.Call (.Name "super" p0) [] [] p1) env)
      standAt p2.atName
      let (f, first) ← holding [ov] (getMethod ov "__init__" pl)
      callWith p4 f first (backTo p4 (starEach [.Constant (.str m) j p3] env)) [])
structure Exs (prog : Program) (K : Frag) (mg : Str → Option Value) (B newId initId : String) (bmB : List Value) (C fI : Addr) (f : Str) : Prop where
  q : excInitIn K C bmB newId = true
  ov : excOver K C bmB = true
  sa : findIn K (.ref C) "__setattr__" = some (some (.builtin "object.__setattr__"))
  no : findIn K (.ref C) f = some none
  hd : hasDictIn K C = true
  subB : subIn K (.ref C) (.type B) = some true
  sup : ks_superIn K C C "__init__" = some (some (.builtin initId))
  mro : mroIn K C (.ref C) = some true
  opq : nsIn K cStatics "thirdparty.any" = some none
  nsup : mg "super" = none
  top : (prog.main.scope.names.lookup ("super" : Str)).isSome = false
  fne : ("self" : Str) ≠ f
  fdb : (f == ("__debug__" : Str)) = false
  init : ExI prog K C fI f
/-- a made exception: e, its own dict d holds the field -/
structure ExMade (h h' : Heap) (e C d : Addr) (f : Str) (v : Value) : Prop where
  keep : ∀ b o, h.get? b = some o → h'.get? b = some o
  new : h.objs.size ≤ e
  obj : ∃ t, h'.get? e = some (excObj C t (some d) .none)
  dbig : h.objs.size ≤ d
  dne : d ≠ e
  ns : h'.Ns1 d (fun y => if y = f then some v else none)
section
variable {prog : Program} {w : World} {A : Around} {E : Value → Shared → Prop} {R : Result → Shared → Prop} {h : Heap} {g : Array GenState} {d : Drawn} {t : Nat} {os : OsState}
variable {K : Frag} {mg : Str → Option Value} {B newId initId : String} {bmB : List Value} {C fI : Addr} {f : Str}
theorem fresh_not_in (X : K.In h) {a : Addr} (ha : h.objs.size ≤ a) : K.lookup a = none := by
  cases e : K.lookup a with
  | none => rfl
  | some o => exact absurd (Nat.lt_of_lt_of_le (Heap.lt_size (X _ _ e)) ha) (Nat.lt_irrefl _)
theorem ex_init (FB : ExcBaseFacts B newId initId bmB) (KF : KxsFacts B initId) (SF : StoreFacts B bmB "object.__setattr__" "object") (T : Exs prog K mg B newId initId bmB C fI f) {x t0 : Addr} {v : Value} {mb : Str → Option Value}
    (X : K.In h) (hlim : h.NoLimit) (hg : h.Ns mainGlobals mg) (hb : h.Ns builtinsNs mb) (hbs : mb "super" = some (.type "super")) (hx : h.get? x = some (excObj C t0 none .none)) (hnx : K.lookup x = none)
    (hroom : A.depth < recursionLimit)
    (hq : ∀ h' tk dx t1, (∀ b o, b ≠ x → h.get? b = some o → h'.get? b = some o) → h.objs.size ≤ dx → dx ≠ x → h'.get? x = some (excObj C t1 (some dx) .none) → h'.Ns1 dx (fun y => if y = f then some v else none) → R (.ok (.ret .none)) ⟨h', g, d, tk, os⟩) :
    codeAny (model prog w) A (.call (.ref fI) ⟨[.ref x, v], []⟩) R ⟨h, g, d, t, os⟩ := by
  obtain ⟨oc, od, qual, params, scope, doc, pm, an, cda, ct, osl, cc, ar, ccl, cl, cdd, cld, vs, ccs, csl, file, tf, p0, p1, p2, p3, p4, p5, q1, q2, q3, q4, j, m, hf, hcd, hcda, hvs, hfile, hcc, hhd, har, hbind, hcell, hsl, hfl, hsup, hcls, hco, hgen, hk, pl, he⟩ := T.init.lk
  obtain ⟨sk, sn, sg, sco, smore⟩ := scope
  dsimp only at hcell hsl hfl hsup hcls hco hgen hk
  subst hk hgen hco
  have nf : ∀ {b : Addr} {o : Obj}, K.lookup b = some o → b ≠ x := fun {b o} e z => by
    rw [z, hnx] at e
    cases e
  refine ks_codeAny_call_defAt (fd := ksFn "__init__" qual params (exB p0 p1 p2 p3 p4 p5 q1 q2 q3 q4 j m f) ⟨.function, sn, false, false, smore⟩ .none .none doc pm an (.ref cda) ct cc) (binds := [("self", .ref x), (f, v)]) hroom (X _ _ hf) rfl hlim (codeRec_of X hcd) rfl
    (BindsTo.of_eq (hbind [.ref x, v] rfl)) hcell (fun y hy => ?_) (fun h₁ hns hk₁ => ?_) rfl rfl rfl
  · rcases List.mem_cons.mp hy with rfl | hy
    · exact hsl
    · rw [List.mem_singleton.mp hy]
      exact hfl
  have lself : (([("self", Value.ref x), (f, v)] : List (Str × Value)).reverse.lookup ("self" : Str)) = some (.ref x) := by
    have z : (("self" : Str) == f) = false := beq_eq_false_iff_ne.mpr T.fne
    show (([(f, v), ("self", Value.ref x)] : List (Str × Value)).lookup ("self" : Str)) = some (.ref x)
    simp [List.lookup, z]
  have lf : (([("self", Value.ref x), (f, v)] : List (Str × Value)).reverse.lookup f) = some v := by
    show (([(f, v), ("self", Value.ref x)] : List (Str × Value)).lookup f) = some v
    simp [List.lookup]
  have X₁ : K.In h₁ := X.keeps hk₁
  have hx₁ := hk₁ _ _ hx
  obtain ⟨cdD, hcD, _⟩ := any_some T.hd
  have hxL : h.objs.size ≠ x := Nat.ne_of_gt (Heap.lt_size hx)
  show _root_.PySem.wpAt _ _ _ (execs (.Expr _ p5 :: _) _) _ _ _
  refine ks_wpAt_execs_cons (ks_wpAt_Expr_any (ks_wpAt_MethodCall (pl := pl) (sup_node (s := ⟨h₁, g, d, _, os⟩) (L := h.objs.size) (D := C) X₁ hns (hg.keeps hk₁) (hb.keeps hk₁) T.nsup hbs (X₁ _ _ hf) rfl hhd (by rw [har]; exact lself) hx₁ rfl (fun c z => by cases z)
    (X₁ _ _ hcda) rfl hvs hfile (X₁ _ _ hcc) rfl hcD T.mro (by decide) hsup hcls (by rw [har]; exact hsl) rfl T.top (fun so h₂ k₂ hso => ?_)) (he _)))
  refine kxs_getMethod KF hso (looks_opaque (X₁.keeps k₂) T.opq) (l₀ := cdD.mro) ?_ rfl (X₁.keeps k₂) ?_ ?_ ?_ (by decide) ?_
  · exact fun A Q E s k q => wpAny_bind ((looks_clsIn (X₁.keeps k₂) hcD) A _ E s k (wpAny_pure q))
  · have z := T.sup
    unfold ks_superIn at z
    rw [hcD] at z
    exact z
  · exact InstAt.type (⟨k₂ _ _ hx₁, rfl, rfl, trivial⟩ : InstAt h₂ x (excObj C t0 none .none) C none) |>.andThen (looks_subIn (X₁.keeps k₂) T.subB)
  · intro z
    have hC : K.lookup C ≠ none := by
      unfold clsIn at hcD
      intro e
      rw [e] at hcD
      cases hcD
    rw [← z] at hC
    exact hC hnx
  have hx₂ := k₂ _ _ hx₁
  have X₂ := X₁.keeps k₂
  have kp : ∀ b o, h₂.get? b = some o → (h₂.push (kxs_mw initId x)).get? b = some o := fun b o e => Heap.get?_push_of_some _ e
  refine mw_callWith (i := initId) (x := x) ?_
  refine Calls.spliced_cons (Calls.Constant_str (pos := p3) (k := j) (Calls.spliced_nil ⟨Heap.get?_push_size _ rfl, ?_⟩))
  refine mw_call (dv := none) (t0 := t0) (X₂.keeps kp) FB T.q (Heap.get?_push_size _ rfl) (kp _ _ hx₂) (by rw [sizeLine_eq]; exact (by decide : 1 ≤ 16777216)) fun h₃ t1 k₃ hx₃ => ?_
  have X₃ : K.In h₃ := fun a o e => k₃ a o (nf e) (kp _ _ (X₂ a o e))
  have keepL : ∀ b o, b ≠ x → h₁.get? b = some o → h₃.get? b = some o := fun b o hb e => k₃ b o hb (kp _ _ (k₂ _ _ e))
  have hns₃ : h₃.Ns h.objs.size (fun y => (([("self", Value.ref x), (f, v)] : List (Str × Value)).reverse.lookup y)) := by
    obtain ⟨o, es, ep, ho, r⟩ := hns
    exact ⟨o, es, ep, keepL _ _ hxL ho, r⟩
  refine ks_wpAt_execs_cons (ks_wpAt_Assign_Attr (wpAt_of_wpAny (wpAny_Name (wpAny_loadName_local rfl hfl hns₃ lf (wpAny_Name (wpAny_loadName_local rfl hsl hns₃ lself ?_) (by decide))) T.fdb)))
  refine set_new SF X₃ hx₃ T.ov T.sa T.no T.hd fun h₄ tk₄ dx k₄ dbig dne hx₄ hn₄ => ?_
  refine wpAt_of_wpAny (wpAny_execs_nil ?_)
  refine hq h₄ tk₄ dx t1 (fun b o hb e => k₄ b o hb (keepL b o hb (hk₁ b o e))) ?_ dne hx₄ hn₄
  have z1 : h.objs.size < h₁.objs.size := hns.lt
  have z2 : h.objs.size < h₃.objs.size := hns₃.lt
  omega
/-- C(v) -/
theorem ex_made (FB : ExcBaseFacts B newId initId bmB) (KF : KxsFacts B initId) (SF : StoreFacts B bmB "object.__setattr__" "object") (T : Exs prog K mg B newId initId bmB C fI f) {v : Value} {mb : Str → Option Value}
    (X : K.In h) (hlim : h.NoLimit) (hg : h.Ns mainGlobals mg) (hb : h.Ns builtinsNs mb) (hbs : mb "super" = some (.type "super")) (hroom : A.depth + 1 < recursionLimit)
    (hq : ∀ h' tk e d0, ExMade h h' e C d0 f v → R (.ok (.ret (.ref e))) ⟨h', g, d, tk, os⟩) :
    codeAny (model prog w) A (.call (.ref C) ⟨[v], []⟩) R ⟨h, g, d, t, os⟩ := by
  obtain ⟨nm, N', qn, bs, bm, hdct, sn, sub, ab, col, dd, k0, k1, k2, k3, k5, hC, hT⟩ := excInit_of X T.q
  obtain ⟨oI, hoI, hcI⟩ : ∃ oI, h.get? fI = some oI ∧ oI.cls = .type "function" := by
    obtain ⟨o, ho, hc⟩ := Option.map_eq_some_iff.mp (show (K.lookup fI).map (·.cls) = some (.type "function") from beq_iff_eq.mp T.init.fn)
    exact ⟨o, X _ _ ho, hc⟩
  have k : ∀ b o, h.get? b = some o → ((h.push (kdv_tup [v])).push (PySem.HandSPX.excO C h.objs.size)).get? b = some o := fun b o e => Heap.get?_push_of_some _ (Heap.get?_push_of_some _ e)
  have hget : ((h.push (kdv_tup [v])).push (PySem.HandSPX.excO C h.objs.size)).get? (h.objs.size + 1) = some (PySem.HandSPX.excO C h.objs.size) := by heap_get
  refine PySem.HandSPX.call_own FB hT hC (looks_findIn X T.init.at_) (fun self => exc_bind hoI hcI self) (by rw [sizeLine_eq]; exact (by decide : 1 ≤ 16777216)) ?_
  refine ex_init FB KF SF T (X.keeps k) (hlim.keeps k) (hg.keeps k) (hb.keeps k) hbs hget (fresh_not_in X (Nat.le_succ _)) ?_ fun h' tk' dx t1 k' dbig dne hx hns => ?_
  · show A.depth + 1 < recursionLimit
    exact hroom
  · have old : ∀ b o, h.get? b = some o → h'.get? b = some o := fun b o e => k' b o (Nat.ne_of_lt (Nat.lt_succ_of_lt (Heap.lt_size e))) (k b o e)
    have z : h.objs.size ≤ dx := by
      rw [Heap.size_push, Heap.size_push] at dbig
      omega
    exact ⟨rfl, hq h' tk' (h.objs.size + 1) dx ⟨old, Nat.le_succ _, ⟨t1, hx⟩, z, dne, hns⟩⟩
end
end GX
/-! part GxB -/
set_option Elab.async false
set_option linter.all false
set_option maxRecDepth 100000
set_option maxHeartbeats 4000000
namespace GX
open PySem PySem.Spec PyProof.Rows L2 L2N
/-! ### try: body, except .. as x: suite, several clauses, one class or two in each -/
theorem flz_keep {B : Heap} {l : List Env} {a : Addr} {Z : Obj → Prop} {h h' : Heap} (k : ∀ b o, h.get? b = some o → h'.get? b = some o) (fl : HandSPX.FlyingZ B l a Z h) : HandSPX.FlyingZ B l a Z h' := by
  obtain ⟨k1, k2, k3, oe, vs, T, oT, ts, e1, e2, e3, e4, e5, e6, e7, e8, e9⟩ := fl
  exact ⟨fun b o e => k _ _ (k1 b o e), k2, Heap.FunFrames.of_keeps (fun b o e _ => ⟨o, k b o e, rfl⟩) k3, oe, vs, T, oT, ts, k _ _ e1, e2, e3, e4, e5, e6, k _ _ e7, e8, e9⟩
inductive TstOk (X : Cx) : Expr → List Value → Prop
  | one {x : Str} {c : Value} {np : Pos} (hc : Names X x c) : TstOk X (.Name x np) [c]
  | two {x1 x2 : Str} {c1 c2 : Value} {p1 p2 tp : Pos} {kk} (h1 : Names X x1 c1) (h2 : Names X x2 c2) : TstOk X (.Tuple [.Name x1 p1, .Name x2 p2] kk tp) [c1, c2]
def exmL (K : PySem.W.Frag) (cls : Value) : List Value → Option Bool
  | [c] => PySem.W.exmOne K cls c
  | cs => PySem.W.exmAny K cls cs
/-- the test of a clause -/
theorem tst_run {X : Cx} {σ : L2.St} {H : Hp} {s : Shared} {t : Expr} {cs : List Value} {a : Addr} {oe : Obj} {cls : Value} {b : Bool} {Q : Bool → Shared → Prop} {E : Value → Shared → Prop} {pn : List (Addr × Obj)}
    (T : TstOk X t cs) (S : Inv (X.suite a pn) [] σ H s) (ha : s.heap.get? a = some oe) (hc : oe.cls = cls) (hb : exmL X.K cls cs = some b)
    (q : ∀ h', (∀ b o, s.heap.get? b = some o → h'.get? b = some o) → Q b { s with heap := h' }) :
    wpAny (model X.prog X.w) (X.A.mark (some (.ref a))) (eval t X.env) (fun c s₁ => wpAny (model X.prog X.w) (X.A.mark (some (.ref a))) (excMatches (.ref a) c) Q E s₁) E s := by
  have LT : PySem.W.Looks (model X.prog X.w) s.heap (typeOf (.ref a)) cls := fun A Q E s k q => wpAny_typeOf_ref (k _ _ ha) (by rw [hc]; exact q)
  have nm : ∀ {x : Str} {c : Value} {np : Pos} {Q : Value → Shared → Prop} {E : Value → Shared → Prop}, Names X x c → Q c s → wpAny (model X.prog X.w) (X.A.mark (some (.ref a))) (eval (.Name x np) X.env) Q E s := fun {x c np Q E} n q => by
    obtain ⟨hg, hdbg, hm | ⟨hm, hv, hnn⟩⟩ := n
    · exact ld_glob (X := X.suite a pn) S hg hm q hdbg
    · exact ld_blt (X := X.suite a pn) S hg hm hv q hnn hdbg
  cases T with
  | one n =>
    exact nm n ((PySem.W.exm_one (M := model X.prog X.w) S.kIn LT hb).here (q s.heap fun _ _ e => e))
  | @two x1 x2 c1 c2 p1 p2 tp kk n1 n2 =>
    have kp : ∀ b o, s.heap.get? b = some o → (s.heap.push { cls := .type "tuple", data := .seq [c1, c2].toArray }).get? b = some o := fun b o e => Heap.get?_push_of_some _ e
    refine wpAny_Tuple_spliced (Calls.spliced_cons (nm n1 (Calls.spliced_cons (nm n2 (Calls.spliced_nil ⟨by rw [sizeLine_eq]; exact (by decide : 2 ≤ 16777216), ?_⟩)))))
    exact (PySem.W.exm_tup2 (M := model X.prog X.w) (S.kIn.keeps kp) (LT.keeps kp) (Heap.get?_push_size _ rfl) hb).here (q _ kp)
inductive HdsA (X : Cx) : List ExceptHandler → List (List Value × Nat × (Addr → Value → Option Addr → TS)) → Prop
  | nil : HdsA X [] []
  | cons {t : Expr} {cs : List Value} {n : Str} {i : Nat} {ts : Addr → Value → Option Addr → TS} {b₀ : Stmt} {suite : List Stmt} {pos' : Pos} {hds : List ExceptHandler} {l : List (List Value × Nat × (Addr → Value → Option Addr → TS))}
      (ht : TstOk X t cs) (hi : X.N[i]? = some n) (hln : X.env.kindOf n = some .local)
      (hsu : ∀ (a : Addr) (oe : Obj) (cls : Value) (d : Option Addr) (pn : List (Addr × Obj)), Zn cls d oe → (∃ vs, oe.data = .fields vs) → PSs (X.suite a ((a, oe) :: pn)) (b₀ :: suite) (ts a cls d)) (r : HdsA X hds l) :
      HdsA X (.ExceptHandler (some t) (some n) (b₀ :: suite) pos' :: hds) ((cs, i, ts) :: l)
def wManyA (K : PySem.W.Frag) (Wout : WX) (D : Ends) : List (List Value × Nat × (Addr → Value → Option Addr → TS)) → WX
  | [] => Wout
  | (cs, i, ts) :: r => fun cls d σ H => ∃ b, exmL K cls cs = some b ∧
      (b = true → ∀ a, H a = none → ts a cls d { nx := fun σ' H' => D.nx (σ'.set i none) H', rt := D.rt, bk := fun σ' H' => D.bk (σ'.set i none) H', ct := fun σ' H' => D.ct (σ'.set i none) H' } (σ.set i (some (.ref a))) H) ∧
      (b = false → wManyA K Wout D r cls d σ H)
section
variable {X : Cx} {body : List Stmt} {h₀ : ExceptHandler} {hds : List ExceptHandler} {l : List (List Value × Nat × (Addr → Value → Option Addr → TS))} {pos : Pos} {tb : WX → TS} {Wout : WX}
theorem ps_tryA (hs : X.stack = X.env :: X.outer) (hf : X.env.frame = some X.env.locals) (hN : X.N.Nodup) (tk : L2N.Takes X Wout)
    (hb : ∀ (W : WX) (pn : List (Addr × Obj)) (xe : Value → Shared → Prop), L2N.Takes (X.tr pn xe) W → PassesOwn (model X.prog X.w) X.A X.env xe → PSs (X.tr pn xe) body (tb W))
    (hh : HdsA X (h₀ :: hds) l) : PS X (.Try body (h₀ :: hds) [] [] pos) (fun D σ H => tb (wManyA X.K Wout D l) D σ H) := by
  refine ⟨fun pins s σ H D I h => ?_⟩
  have ok := I.ok
  have hfr : X.A.frames = some (X.env :: X.outer) := by rw [ok.frames, hs]
  refine wpAny_Try_except ?_
  refine wpAny_mono ((hb (wManyA X.K Wout D l) (X.pn ++ pins) (fun e s₁ => wpAny (model X.prog X.w) X.A (noteFrame e X.env) (fun _ s₂ => wpAny (model X.prog X.w) X.A (setFlight e none) (fun _ s₃ =>
    wpAny (model X.prog X.w) X.A (handleBy e X.env (h₀ :: hds)) (SP X pins D) X.xe s₃) X.xe s₂) X.xe s₁) (fun u s' xx => ?_) PassesOwn.looking).run [] s σ H D (I.toTry _) h) (fun f s1 hsp => ?_) (fun e s1 he => he)
  · -- the catch
    obtain ⟨a, B, sI, pins', σ', H', cls, d, rfl, J', nb, up, sky, na, os, ag, w⟩ := xx
    have J : Inv X pins σ' H' sI := J'.ofTry ok
    have sky' : Sky B (X.env :: X.outer) a (Zn cls d) X.env.locals s'.heap := by rw [← hs]; exact sky
    show wpAny (model X.prog X.w) X.A (noteFrame (.ref a) X.env) _ _ _
    refine Sky.land Zn.steady hfr hf sky' fun h3 fl3 up3 => ?_
    obtain ⟨oe3, vs3, he3, hz3, hd3⟩ := fl3.there
    have notFr : ∀ {h : Heap} {o : Obj} {vs : Array Value}, h.FunFrames B (X.env :: X.outer) → h.get? a = some o → o.data = .fields vs → a ∉ frs (X.env :: X.outer) := fun {h o vs} ff e dd hm => by
      obtain ⟨_, o', e', hnf⟩ := ff.mem hm
      rw [e] at e'; cases e'
      exact hnf _ dd
    have nfr := notFr fl3.2.2.1 he3 hd3
    have nL : a ≠ X.env.locals := fun z => nfr (List.mem_filterMap.mpr ⟨X.env, List.mem_cons_self, by rw [hf, z]⟩)
    have nF : a ∉ X.fs := fun hm => by
      obtain ⟨e, he, q⟩ := List.mem_filterMap.mp hm
      exact nfr (List.mem_filterMap.mpr ⟨e, List.mem_cons_of_mem _ he, q⟩)
    have go : ∀ {hds' : List ExceptHandler} {l' : List (List Value × Nat × (Addr → Value → Option Addr → TS))}, HdsA X hds' l' → ∀ (h3 : Heap), HandSPX.FlyingZ B (X.env :: X.outer) a (Zn cls d) h3 → s'.heap.UpToSlots h3 →
        wManyA X.K Wout D l' cls d σ' H' → wpAny (model X.prog X.w) X.A (handleBy (.ref a) X.env hds') (SP X pins D) X.xe { s' with heap := h3 } := by
      intro hds' l' hk
      induction hk with
      | nil =>
        intro h3 fl3 up3 w
        refine wpAny_handleBy_nil ?_
        obtain ⟨k1, k2, k3, oe, vs, T, oT, ts', he, hz, hd, h1, hr⟩ := id fl3
        unfold PySem.passOn
        refine wpAny_bind (wpAny_field he hd h1 ?_)
        rw [if_neg (show ¬ ((Value.ref T == Value.none) = true) from by simp)]
        have fin : wpAny (model X.prog X.w) X.A (setFlight (.ref a) X.env.frame) (fun _ s4 => wpAny (model X.prog X.w) X.A (throw (.ref a) : Sem Flow) (SP X pins D) X.xe s4) X.xe { s' with heap := h3 } := by
          rw [hf]
          refine HandSPX.setFlight_upZ fl3 fun h4 hh4 up4 => wpAny_throw (tk _ _ ?_)
          exact ⟨a, B, sI, pins, σ', H', cls, d, rfl, J, nb, (up.trans up3).trans up4, .inr (.inr (by rw [hs]; exact hh4)), na, os, ag, w⟩
        first
          | exact wpAny_bind (wpAny_pure (wpAny_bind fin))
          | exact wpAny_bind fin
      | @cons t cs n i ts b₀ suite pos' hds2 l2 ht hi hln hsu r ih =>
        intro h3 fl3 up3 w
        obtain ⟨b, hb1, hyes, hno⟩ := w
        have hloc : Loc X.env.scope n := .inl hln
        have J3 : Inv X pins σ' H' { s' with heap := h3 } := J.landed nb fl3.1 (up.trans up3) os ag
        obtain ⟨oe3, vs3, he3, hz3, hd3⟩ := fl3.there
        have S3 := J3.suite he3 hd3 na nL nF
        refine wpAny_handleBy_cons (codeAny_handlers_test (tst_run (s := { s' with heap := h3 }) ht S3 he3 hz3.1 hb1 fun h3' k3' => ?_)) (by intro q; cases q)
        have fl3' := flz_keep k3' fl3
        have up3' : s'.heap.UpToSlots h3' := up3.trans (Heap.UpToSlots.of_keeps k3')
        cases b with
        | true =>
          refine codeAny_handlers_suite_as ?_
          refine HandSPX.lands_againZ fl3' fun h4 fl4 up4 => ?_
          have J4 : Inv X pins σ' H' { s' with heap := h4 } := J.landed nb fl4.1 ((up.trans up3').trans up4) os ag
          obtain ⟨oe4, vs4, he4, hz4, hd4⟩ := fl4.there
          have S4 := J4.suite he4 hd4 na nL nF
          refine store_ok (X := X.suite a ((a, oe4) :: (X.pn ++ pins))) (v := .ref a) S4 hN hi hloc rfl (fun s5 S5 => ?_) (.inr hln)
          refine wpAny_mono ((hsu a oe4 cls d (X.pn ++ pins) hz4 ⟨_, hd4⟩).run [] s5 _ H' _ S5 (hyes rfl a na)) (fun f s6 hsp => ?_) (fun _ _ z => False.elim z)
          have end_ : ∀ {σ6 : L2.St} {H6 : Hp} {Q : Shared → Prop}, Inv (X.suite a ((a, oe4) :: (X.pn ++ pins))) [] σ6 H6 s6 → (∀ s7, Inv X pins (σ6.set i none) H6 s7 → Q s7) →
              wpAny (model X.prog X.w) X.A (do bindName X.env n .none; unbindBehindTheSuite X.env n pos') (fun _ s7 => Q s7) X.xe s6 := fun {σ6 H6 Q} S6 hq => gone_ok (S6.unsuite ok) hN hi hln hq
          cases f with
          | next =>
            obtain ⟨σ6, H6, S6, q6⟩ := hsp
            exact end_ S6 fun s7 J7 => ⟨_, _, J7, q6⟩
          | brk =>
            obtain ⟨σ6, H6, S6, q6⟩ := hsp
            exact end_ S6 fun s7 J7 => ⟨_, _, J7, q6⟩
          | cont =>
            obtain ⟨σ6, H6, S6, q6⟩ := hsp
            exact end_ S6 fun s7 J7 => ⟨_, _, J7, q6⟩
          | ret u =>
            obtain ⟨v6, σ6, H6, S6, r6, q6⟩ := hsp
            exact end_ S6 fun s7 J7 => ⟨_, _, _, J7, r6, q6⟩
        | false =>
          show wpAny _ X.A (handleBy (.ref a) X.env hds2) _ _ _
          exact ih h3' fl3' up3' (hno rfl)
    exact go hh h3 fl3 up3 w
  · cases f with
    | next =>
      obtain ⟨σ', H', J', q⟩ := hsp
      exact wpAny_execs_nil ⟨σ', H', J'.ofTry ok, q⟩
    | brk =>
      obtain ⟨σ', H', J', q⟩ := hsp
      exact ⟨σ', H', J'.ofTry ok, q⟩
    | cont =>
      obtain ⟨σ', H', J', q⟩ := hsp
      exact ⟨σ', H', J'.ofTry ok, q⟩
    | ret u =>
      obtain ⟨v, σ', H', J', r, q⟩ := hsp
      exact ⟨v, σ', H', J'.ofTry ok, r, q⟩
end
end GX
/-! part GxC -/
set_option Elab.async false
set_option linter.all false
set_option maxRecDepth 100000
set_option maxHeartbeats 4000000
namespace GX
open PySem PySem.Spec PyProof.Rows L2
/-! ### raise C(e), C's __init__ by super() -/
/-- C(e), the exception and its dict new -/
def tMkEx (C : Addr) (f : Str) (ta : TA) : L2.St → Hp → XK → Prop := fun σ H Q => ta σ H fun vs H1 => ∃ v, vs = [v] ∧ ∀ d, H1 d = none → Q (.ref C) (some d) (upd H1 d (.xd [(f, v)]))
/-- what is asked of the class where it is raised -/
structure ExR (K : PySem.W.Frag) (mg : Str → Option Value) (x : Str) (C : Addr) : Prop where
  gC : mg x = some (.ref C)
  kC : PySem.W.keepIn K (.ref C) = true
  exC : PySem.W.subIn K (.ref C) (.type "BaseException") = some true
  tyC : PySem.W.typeIn K (.ref C) = some (.type "type")
theorem relO_one {f : Str} {v : V} {v' : Value} (r : RelV v v') (g : Str) : RelO (List.lookup g [(f, v)]) (if g = f then some v' else none) := relO_put (fs := []) (mA := fun _ => none) r (fun _ => True.intro) g
section
variable {X : Cx} {C fI : Addr} {f x : Str} {B newId initId : String} {bmB : List Value}
theorem pmk_ex {a : Expr} {ta : TA} {p pos : Pos} {k : Nat} (FB : ExcBaseFacts B newId initId bmB) (KF : PySem.W.KxsFacts B initId) (SF : StoreFacts B bmB "object.__setattr__" "object") (T : Exs X.prog X.K X.mg B newId initId bmB C fI f) (R : ExR X.K X.mg x C) (hr : Room k X.A) (ha : PA X [a] ta) (hg : Gl X x)
    (hdb : (x == ("__debug__" : Str)) = false := by decide) (he : starEach (a :: []) X.env = (false, eval a X.env) :: starEach [] X.env := by rfl) (hpl : (backTo pos (starEach [] X.env)).any (·.1) = false := by rfl) :
    L2N.PMk X (.Call (.Name x p) [a] [] pos) (tMkEx C f ta) := by
  intro pins s σ H Q I h
  refine wpAny_Call_Name_kw (ld_glob I hg R.gC ?_ hdb)
  refine PySem.W.callWith_K (h₀ := X.base) I.ok.mod.kin R.kC (thn (ha.run pos pins s σ H _ I h) fun us s1 hh => ?_) he hpl
  obtain ⟨vs, H1, I1, r1, v, ev, q1⟩ := hh
  subst ev
  refine ⟨I1.kIn, ?_⟩
  cases r1 with
  | cons rv rn =>
    rename_i v' us'
    cases rn
    show wpAny _ _ (call (.ref C) [v']) _ _ _
    have hlim := I1.nolimit
    obtain ⟨mb, hb, hbb⟩ := I1.ok.mod.blt
    have hbs : mb "super" = some (.type "super") := (hbb "super" (by decide)).trans (by decide +kernel)
    have hg' := I1.ok.mod.glob.keeps I1.bk
    have hb' := hb.keeps I1.bk
    have kin := I1.kIn
    obtain ⟨hp, g, dr, tk, os⟩ := s1
    refine wpAny_call (ex_made FB KF SF T kin hlim hg' hb' hbs (by have := hr.dp; omega) fun h' tk' e d M => ?_)
    show L2N.MkP X pins σ Q (.ref e) ⟨h', g, dr, tk', os⟩
    obtain ⟨t1, hoe⟩ := M.obj
    obtain ⟨G', g1, g2⟩ := restrict h' fun b => decide (b ≠ e)
    have gk : ∀ b, b ≠ e → G'.get? b = h'.get? b := fun b hb => g1 b (decide_eq_true hb)
    have ge : G'.get? e = none := g2 e (by simp)
    have old : ∀ b o, hp.get? b = some o → G'.get? b = some o := fun b o q => (gk b (Nat.ne_of_lt (Nat.lt_of_lt_of_le (Heap.lt_size q) M.new))).trans (M.keep b o q)
    have ob : ObjOk X.prog X.w (upd H1 d (.xd [(f, v)])) G' d (.xd [(f, v)]) :=
      ⟨_, M.ns.at (fun o q => (gk d M.dne).trans q), fun f' => relO_one rv f'⟩
    have J : Inv X pins σ (upd H1 d (.xd [(f, v)])) ⟨G', g, dr, tk', os⟩ := I1.laid (t' := tk') old M.dbig ob
    refine ⟨e, _, _, ⟨G', g, dr, tk', os⟩, _, .ref C, some d, rfl, J, fun b o q => ?_, ge, hoe, ⟨rfl, rfl, fun vs e => by cases e; rfl⟩, rfl, rfl, ?_, rfl, I1.bare, raises_own R.exC R.tyC, q1 d (I1.hok.fresh M.dbig)⟩
    · by_cases hb : b = e
      · have q' : G'.get? b = some o := q
        rw [hb, ge] at q'; cases q'
      · exact (gk b hb).symm.trans q
    · rw [upd_ne (Ne.symm M.dne)]
      exact I1.hok.fresh M.new
end
/-! ### calls, as one: n values, keywords ks, defaults; what is raised is wished for at the slots -/
abbrev Sk := List V → List V → Hp → VK → XK → Prop
structure CalK (P : Program) (w : World) (K : PySem.W.Frag) (mg : Str → Option Value) (base : Heap) (k : Nat) (f : Addr) (n : Nat) (ks : List Str) (sp : Sk) : Prop where
  ex : ∃ (fd : FuncData) (ps : List Str) (sp0 : Sp) (g : List Value → List Value → List Value) (gV : List V → List V → List V), FnOk P w K mg base (L2N.CX P w) k f fd ps sp0 ∧ KBn K fd ps n ks g gV ∧
    ∀ vs zs H Q E, sp vs zs H Q E → vs.length = n ∧ zs.length = ks.length ∧ sp0 (gV vs zs) H Q E
section
variable {X : Cx} {k j n : Nat} {f C : Addr} {ks : List Str} {sp : Sk} {W : WX} {x m : Str} {p pos apos : Pos} {e o : Expr} {es : List Expr} {kws : List Keyword} {ta : TE} {t tk' : TA} {pins : List (Addr × Obj)} {σ : L2.St} {H : Hp} {s : Shared} {Q : VK}
theorem run_cal {us ws : List Value} {vs zs : List V} (c : CalK X.prog X.w X.K X.mg X.base k f n ks sp) (hr : Room k X.A) (tk : L2N.Takes X W)
    (I : Inv X pins σ H s) (r : Vals vs us) (rz : Vals zs ws) (h : sp vs zs H Q (WE W σ)) : wpAny (model X.prog X.w) X.A (call (.ref f) us (ks.zip ws)) (EP X pins σ Q) X.xe s := by
  obtain ⟨fd, ps, sp0, g, gV, F, hb, hsp⟩ := c.ex
  obtain ⟨l1, l2, h0⟩ := hsp _ _ _ _ _ h
  have r2 := hb.rel r rz
  refine wpAny_call (codeAny_mono (F.run X.A X.stack s H ⟨us, ks.zip ws⟩ (g us ws) (gV vs zs) Q (WE W σ) hr I.env0 (hb.to s us ws I.kIn (r.length.symm.trans l1) (rz.length.symm.trans l2)) r2 h0) fun r s' hq => ?_)
  cases r with
  | error e => exact L2N.passAt tk σ pins H s e s' I hq
  | ok fl =>
    cases fl with
    | ret u => exact I.after hq
    | next => exact False.elim hq
    | brk => exact False.elim hq
    | cont => exact False.elim hq
/-- f(e, ..) -/
def tF (sp : Sk) (W : WX) (t tz : TA) : TE := fun σ H Q => t σ H fun vs H1 => tz σ H1 fun zs H2 => sp vs zs H2 Q (WE W σ)
theorem pe_f (c : CalK X.prog X.w X.K X.mg X.base k f n [] sp) (hm : X.mg x = some (.ref f)) (hk : PySem.W.keepIn X.K (.ref f) = true) (hr : Room j X.A) (hj : k ≤ j) (tk : L2N.Takes X W) (hg : Gl X x) (ha : PA X (e :: es) t)
    (hdb : (x == ("__debug__" : Str)) = false := by decide) (he : starEach (e :: es) X.env = (false, eval e X.env) :: starEach es X.env := by rfl) (hpl : (backTo pos (starEach es X.env)).any (·.1) = false := by rfl) :
    PE X (.Call (.Name x p) (e :: es) [] pos) (tF sp W t tNil) := by
  refine ⟨fun pins s σ H Q I h => ?_⟩
  refine wpAny_Call_Name_kw (ld_glob I hg hm ?_ hdb)
  refine PySem.W.callWith_K (h₀ := X.base) I.ok.mod.kin hk (thn (ha.run pos pins s σ H _ I h) fun us s1 ⟨vs, H1, I1, r, q⟩ => ⟨I1.kIn, ?_⟩) he hpl
  exact run_cal (ws := []) (zs := []) c (hr.mono hj) tk I1 r .nil q
theorem pe_f0 (c : CalK X.prog X.w X.K X.mg X.base k f n [] sp) (hm : X.mg x = some (.ref f)) (hk : PySem.W.keepIn X.K (.ref f) = true) (hr : Room j X.A) (hj : k ≤ j) (tk : L2N.Takes X W) (hg : Gl X x) (hdb : (x == ("__debug__" : Str)) = false := by decide) :
    PE X (.Call (.Name x p) [] [] pos) (tF sp W tNil tNil) := by
  refine ⟨fun pins s σ H Q I h => ?_⟩
  refine wpAny_Call_Name_kw (ld_glob I hg hm ?_ hdb)
  exact PySem.W.callWith_K0 I.kIn hk (run_cal (us := []) (vs := []) (ws := []) (zs := []) c (hr.mono hj) tk I .nil .nil h)
theorem pe_fK (c : CalK X.prog X.w X.K X.mg X.base k f n ks sp) (hm : X.mg x = some (.ref f)) (hk : PySem.W.keepIn X.K (.ref f) = true) (hr : Room j X.A) (hj : k ≤ j) (tk : L2N.Takes X W) (hg : Gl X x)
    (ha : PA X (e :: es) t) (hkw : PK X kws tk') (hall : (backToKw pos (keywordEach kws X.env)).all (·.1.isSome) = true := by rfl) (hks : (backToKw pos (keywordEach kws X.env)).filterMap (·.1) = ks := by rfl)
    (hdb : (x == ("__debug__" : Str)) = false := by decide) (he : starEach (e :: es) X.env = (false, eval e X.env) :: starEach es X.env := by rfl)
    (hpl : ((backTo pos (starEach (e :: es) X.env)).any (·.1) || (backToKw pos (keywordEach kws X.env)).any (·.1.isNone)) = false := by rfl) :
    PE X (.Call (.Name x p) (e :: es) kws pos) (tF sp W t tk') := by
  refine ⟨fun pins s σ H Q I h => ?_⟩
  refine wpAny_Call_Name_kw (ld_glob I hg hm ?_ hdb)
  refine PySem.W.callWith_KW (h₀ := X.base) I.ok.mod.kin hk hall (thn (ha.run pos pins s σ H _ I h) fun us s1 ⟨vs, H1, I1, r, q⟩ => ?_) hpl he
  refine thn (hkw.run pos pins s1 σ H1 _ I1 q) fun ws s2 ⟨zs, H2, I2, rz, q2⟩ => ⟨I2.kIn, ?_⟩
  rw [hks]
  exact run_cal c (hr.mono hj) tk I2 r rz q2
/-- C(e, ..) -/
theorem run_new {us ws : List Value} {vs zs : List V} (M : Mk X.K C f) (c : CalK X.prog X.w X.K X.mg X.base k f (n + 1) ks sp) (hr : Room (k + 1) X.A) (tk : L2N.Takes X W)
    (I : Inv X pins σ H s) (r : Vals vs us) (rz : Vals zs ws)
    (h : ∀ x dx, H x = none → H dx = none → dx ≠ x → sp (.ref x :: vs) zs (upd (upd H dx (.own x)) x (.ins C dx [])) (fun v H2 => v = .non ∧ Q (.ref x) H2) (WE W σ)) :
    wpAny (model X.prog X.w) X.A (call (.ref C) us (ks.zip ws)) (EP X pins σ Q) X.xe s := by
  obtain ⟨fd, ps, sp0, g, gV, F, hb, hsp⟩ := c.ex
  have hq := h (s.heap.objs.size + 1) s.heap.objs.size (I.hok.fresh (Nat.le_succ _)) (I.hok.fresh (Nat.le_refl _)) (Nat.ne_of_lt (Nat.lt_succ_self _))
  obtain ⟨l1, l2, h0⟩ := hsp _ _ _ _ _ hq
  have I2 := Inv.made (C := C) I
  have r1 : Vals (V.ref (s.heap.objs.size + 1) :: vs) (Value.ref (s.heap.objs.size + 1) :: us) := .cons rfl r
  have r2 := hb.rel r1 rz
  have e1 : (Value.ref (s.heap.objs.size + 1) :: us).length = n + 1 := r1.length.symm.trans l1
  have e2 : ws.length = ks.length := rz.length.symm.trans l2
  refine wpAny_call (make_map (f := f) I.kIn M.makes M.init (beq_iff_eq.mp M.fn) (codeAny_mono (F.run _ X.stack _ _ ⟨Value.ref (s.heap.objs.size + 1) :: us, ks.zip ws⟩ (g (Value.ref (s.heap.objs.size + 1) :: us) ws) _ _ (WE W σ) (hr.make C us (ks.zip ws))
    (I2.env0.make C us (ks.zip ws)) (hb.to _ (Value.ref (s.heap.objs.size + 1) :: us) ws I2.kIn e1 e2) r2 h0) fun r s' hq' => ?_))
  cases r with
  | error e => exact L2N.passAt tk σ pins _ _ e s' I2 hq'
  | ok fl =>
    cases fl with
    | ret u =>
      obtain ⟨v, H', I3, rv, ev, q3⟩ := I2.after hq'
      subst ev
      exact ⟨rv, ⟨V.ref (s.heap.objs.size + 1), H', I3, rfl, q3⟩⟩
    | next => exact False.elim hq'
    | brk => exact False.elim hq'
    | cont => exact False.elim hq'
def tNew (C : Addr) (sp : Sk) (W : WX) (t tz : TA) : TE := fun σ H Q => t σ H fun vs H1 => tz σ H1 fun zs H2 => ∀ x dx, H2 x = none → H2 dx = none → dx ≠ x →
  sp (.ref x :: vs) zs (upd (upd H2 dx (.own x)) x (.ins C dx [])) (fun v H3 => v = .non ∧ Q (.ref x) H3) (WE W σ)
theorem pe_new (M : Mk X.K C f) (c : CalK X.prog X.w X.K X.mg X.base k f (n + 1) [] sp) (hm : X.mg x = some (.ref C)) (hr : Room j X.A) (hj : k + 1 ≤ j) (tk : L2N.Takes X W) (hg : Gl X x) (ha : PA X (e :: es) t)
    (hdb : (x == ("__debug__" : Str)) = false := by decide) (he : starEach (e :: es) X.env = (false, eval e X.env) :: starEach es X.env := by rfl) (hpl : (backTo pos (starEach es X.env)).any (·.1) = false := by rfl) :
    PE X (.Call (.Name x p) (e :: es) [] pos) (tNew C sp W t tNil) := by
  refine ⟨fun pins s σ H Q I h => ?_⟩
  refine wpAny_Call_Name_kw (ld_glob I hg hm ?_ hdb)
  refine PySem.W.callWith_K (h₀ := X.base) I.ok.mod.kin M.kp (thn (ha.run pos pins s σ H _ I h) fun us s1 ⟨vs, H1, I1, r, q⟩ => ⟨I1.kIn, ?_⟩) he hpl
  exact run_new (ws := []) (zs := []) M c (hr.mono hj) tk I1 r .nil q
theorem pe_newK (M : Mk X.K C f) (c : CalK X.prog X.w X.K X.mg X.base k f (n + 1) ks sp) (hm : X.mg x = some (.ref C)) (hr : Room j X.A) (hj : k + 1 ≤ j) (tk : L2N.Takes X W) (hg : Gl X x)
    (ha : PA X (e :: es) t) (hkw : PK X kws tk') (hall : (backToKw pos (keywordEach kws X.env)).all (·.1.isSome) = true := by rfl) (hks : (backToKw pos (keywordEach kws X.env)).filterMap (·.1) = ks := by rfl)
    (hdb : (x == ("__debug__" : Str)) = false := by decide) (he : starEach (e :: es) X.env = (false, eval e X.env) :: starEach es X.env := by rfl)
    (hpl : ((backTo pos (starEach (e :: es) X.env)).any (·.1) || (backToKw pos (keywordEach kws X.env)).any (·.1.isNone)) = false := by rfl) :
    PE X (.Call (.Name x p) (e :: es) kws pos) (tNew C sp W t tk') := by
  refine ⟨fun pins s σ H Q I h => ?_⟩
  refine wpAny_Call_Name_kw (ld_glob I hg hm ?_ hdb)
  refine PySem.W.callWith_KW (h₀ := X.base) I.ok.mod.kin M.kp hall (thn (ha.run pos pins s σ H _ I h) fun us s1 ⟨vs, H1, I1, r, q⟩ => ?_) hpl he
  refine thn (hkw.run pos pins s1 σ H1 _ I1 q) fun ws s2 ⟨zs, H2, I2, rz, q2⟩ => ⟨I2.kIn, ?_⟩
  rw [hks]
  exact run_new M c (hr.mono hj) tk I2 r rz q2
/-- o.m(e, ..), o an instance of the class at C -/
def tM (C : Addr) (m : Str) (sp : Sk) (W : WX) (ta : TE) (t : TA) : TE := fun σ H Q => ta σ H fun x H1 => ∃ a dx fs, x = .ref a ∧ H1 a = some (.ins C dx fs) ∧ fs.lookup m = none ∧ t σ H1 fun vs H2 => sp (x :: vs) [] H2 Q (WE W σ)
theorem pe_m {pl : Sem Bool} (hc : Cls X.K C) (hm : Meth X.K C m f) (c : CalK X.prog X.w X.K X.mg X.base k f n [] sp) (hr : Room j X.A) (hj : k ≤ j) (tk : L2N.Takes X W) (he : PE X o ta) (ha : PA X (e :: es) t)
    (hst : starEach (e :: es) X.env = (false, eval e X.env) :: starEach es X.env := by rfl) (hpl : (backTo pos (starEach es X.env)).any (·.1) = false := by rfl)
    (ht : eval (.Call (.Attribute o m apos) (e :: es) [] pos) X.env = (do
      let ov ← eval o X.env
      standAt apos.atName
      let (f, first) ← holding [ov] (getMethod ov m pl)
      callWith pos f first (backTo pos (starEach (e :: es) X.env)) (backToKw pos (keywordEach [] X.env))) := by rfl) :
    PE X (.Call (.Attribute o m apos) (e :: es) [] pos) (tM C m sp W ta t) := by
  refine ⟨fun pins s σ H Q I h => ?_⟩
  refine PySem.W.methodCall_KW (pl := pl) (thn (he.run pins s σ H _ I h) fun u s1 ⟨x, H1, I1, rx, a, dx, fs, ex, ea, l, q⟩ => ?_) ht
  subst ex
  obtain rfl : u = Value.ref a := rx
  refine getmeth_ok I1 ea hc hm l ?_
  refine PySem.W.callWith_K (first := [.ref a]) (h₀ := X.base) I.ok.mod.kin hm.kp (thn (ha.run pos pins s1 σ H1 _ I1 q) fun us s2 ⟨vs, H2, I2, r, q2⟩ => ⟨I2.kIn, ?_⟩) hst hpl
  exact run_cal (us := .ref a :: us) (vs := .ref a :: vs) (ws := []) (zs := []) c (hr.mono hj) tk I2 (.cons rfl r) .nil q2
theorem pe_m0 {pl : Sem Bool} (hc : Cls X.K C) (hm : Meth X.K C m f) (c : CalK X.prog X.w X.K X.mg X.base k f n [] sp) (hr : Room j X.A) (hj : k ≤ j) (tk : L2N.Takes X W) (he : PE X o ta)
    (ht : eval (.Call (.Attribute o m apos) [] [] pos) X.env = (do
      let ov ← eval o X.env
      standAt apos.atName
      let (f, first) ← holding [ov] (getMethod ov m pl)
      callWith pos f first (backTo pos (starEach [] X.env)) (backToKw pos (keywordEach [] X.env))) := by rfl) :
    PE X (.Call (.Attribute o m apos) [] [] pos) (tM C m sp W ta tNil) := by
  refine ⟨fun pins s σ H Q I h => ?_⟩
  refine PySem.W.methodCall_KW (pl := pl) (thn (he.run pins s σ H _ I h) fun u s1 ⟨x, H1, I1, rx, a, dx, fs, ex, ea, l, q⟩ => ?_) ht
  subst ex
  obtain rfl : u = Value.ref a := rx
  refine getmeth_ok I1 ea hc hm l ?_
  exact PySem.W.callWith_K0 (first := [.ref a]) I1.kIn hm.kp (run_cal (us := [.ref a]) (vs := [.ref a]) (ws := []) (zs := []) c (hr.mono hj) tk I1 (.cons rfl .nil) .nil q)
/-- a staticmethod of the class at C, read off the class -/
structure Stat (K : PySem.W.Frag) (C : Addr) (m : Str) (f : Addr) : Prop where
  rd : PySem.W.readsIn K C (.type "type") = true
  ga : PySem.W.specialIn K (.ref C) "__getattribute__" = some (some (.builtin "type.__getattribute__"))
  sm : ∃ (p : Addr) (rest : List Value), PySem.W.findCls K (.ref C) (.type "type") m = some (.get (.builtin "staticmethod.__get__") (.ref p) .none (.ref C)) ∧ PySem.W.recIn K p "staticmethod" = some (.ref f :: rest)
  kp : PySem.W.keepIn K (.ref f) = true
def tS (C : Addr) (sp : Sk) (W : WX) (ta : TE) (t : TA) : TE := fun σ H Q => ta σ H fun x H1 => x = .ref C ∧ t σ H1 fun vs H2 => sp vs [] H2 Q (WE W σ)
theorem pe_st {pl : Sem Bool} (hs : Stat X.K C m f) (c : CalK X.prog X.w X.K X.mg X.base k f n [] sp) (hr : Room j X.A) (hj : k ≤ j) (tk : L2N.Takes X W) (he : PE X o ta) (ha : PA X (e :: es) t)
    (hst : starEach (e :: es) X.env = (false, eval e X.env) :: starEach es X.env := by rfl) (hpl : (backTo pos (starEach es X.env)).any (·.1) = false := by rfl)
    (ht : eval (.Call (.Attribute o m apos) (e :: es) [] pos) X.env = (do
      let ov ← eval o X.env
      standAt apos.atName
      let (f, first) ← holding [ov] (getMethod ov m pl)
      callWith pos f first (backTo pos (starEach (e :: es) X.env)) (backToKw pos (keywordEach [] X.env))) := by rfl) :
    PE X (.Call (.Attribute o m apos) (e :: es) [] pos) (tS C sp W ta t) := by
  refine ⟨fun pins s σ H Q I h => ?_⟩
  refine PySem.W.methodCall_KW (pl := pl) (thn (he.run pins s σ H _ I h) fun u s1 ⟨x, H1, I1, rx, ex, q⟩ => ?_) ht
  subst ex
  obtain rfl : u = Value.ref C := rx
  obtain ⟨p, rest, e1, e2⟩ := hs.sm
  refine PySem.W.method_cls I1.kIn hs.ga (PySem.W.cls_bind I1.kIn hs.rd e1 (wpAny_call (PySem.W.sm_get (s := { s1 with toks := s1.toks + 1 }) I1.kIn e2 (PySem.W.handed_on rfl ?_))))
  refine PySem.W.callWith_K (h₀ := X.base) I.ok.mod.kin hs.kp (thn (ha.run pos pins _ σ H1 _ (I1.tok _) q) fun us s2 ⟨vs, H2, I2, r, q2⟩ => ⟨I2.kIn, ?_⟩) hst hpl
  exact run_cal (us := us) (vs := vs) (ws := []) (zs := []) c (hr.mono hj) tk I2 r .nil q2
end
end GX
/-! part GxD -/
set_option Elab.async false
set_option linter.all false
set_option maxRecDepth 100000
set_option maxHeartbeats 4000000
namespace GX
open PySem PySem.Spec PyProof.Rows L2 L2H
/-! ### a def that is called in an except suite with the exception itself -/
abbrev SpE := Addr → Value → Option Addr → Sp
structure FnE (P : Program) (w : World) (K : PySem.W.Frag) (mg : Str → Option Value) (base : Heap) (k : Nat) (f : Addr) (fd : FuncData) (ps : List Str) (sp : SpE) : Prop where
  len : ∀ a cls d vs H Q E, sp a cls d vs H Q E → vs.length = ps.length
  run : ∀ (A : Around) (outer : List Env) (s : Shared) (H : Hp) (args : Args) (us : List Value) (vs : List V) (Q : VK) (E : XK) (p : Addr × Obj) (cls : Value) (d : Option Addr), RoomH k A → Hot1 A p → L2N.Zn cls d p.2 → PinOk outer H s p → Env0 P w K mg base A outer s H →
    BindsTo s fd args (ps.zip us) → Vals vs us → sp p.1 cls d vs H Q E → codeAny (model P w) A (.call (.ref f) args) (CR (L2N.CX P w) outer P w H s Q E) s
theorem fn_ofE {P : Program} {w : World} {K : PySem.W.Frag} {mg : Str → Option Value} {base : Heap} {k : Nat} {f : Addr} {name qual : Str} {params : Arguments} {body : List Stmt} {scope : Scope} {dV kV doc pm cdv ct oc : Value} {an od : Option Addr}
    {osl : Array (Option Value)} {N ps : List Str} {sp : SpE} (lk : K.lookup f = some ⟨oc, od, .func (PySem.W.fnOf name qual params body scope dV kV doc pm an cdv ct), osl⟩) (hcd : PySem.W.codeIn K cdv qual = true) (S : FnScope N ps scope)
    (len : ∀ a cls d vs H Q E, sp a cls d vs H Q E → vs.length = ps.length)
    (hbody : ∀ (A : Around) (outer : List Env) (s : Shared) (H : Hp) (vs : List V) (Q : VK) (E : XK) (p : Addr × Obj) (cls : Value) (d : Option Addr), Hot1 A p → L2N.Zn cls d p.2 → RoomH k (A.deeper (envOfC qual scope s.heap.objs.size f cdv)) → sp p.1 cls d vs H Q E →
      ∃ t, PSs (cxH (L2N.CX P w) P w K mg base N qual scope f cdv A outer s H E p) body t ∧ t { nx := fun _ H' => Q .non H', rt := Q } (L2.start N vs) H) :
    FnE P w K mg base (k + 1) f (PySem.W.fnOf name qual params body scope dV kV doc pm an cdv ct) ps sp := by
  refine ⟨len, fun A outer s H args us vs Q E p cls d hr hot hz hpin e0 hb r hsp => ?_⟩
  have hl := len _ _ _ _ _ _ _ hsp
  have KX : K.In s.heap := e0.mod.kin.keeps fun b o e => (e0.bs b o e).1
  have lim : s.heap.NoLimit := e0.mod.nolimit.keeps fun b o e => (e0.bs b o e).1
  have hkind : ∀ y ∈ ps.zip us, scope.names.lookup y.1 = some .local ∨ (scope.names.lookup y.1 = some .cell ∧ ((cellsFrom (s.heap.objs.size + 1) scope.names []).lookup y.1).isSome = true) := fun ⟨n, v⟩ hy => by
    rcases S.par n (List.of_mem_zip hy).1 with q | q
    · exact .inl q
    · exact .inr ⟨q, PySem.W.cellsFrom_some _ _ _ (.inl q)⟩
  refine codeAny_call_function hr.depth (KX _ _ lk) rfl S.co S.gen rfl (PySem.W.codeRec_of KX hcd) (hb _ _ _ _ ?_)
  refine wpAny_newFunctionEnv_cells S.kind hkind fun env he s1 x => ?_
  subst he
  refine ⟨lim.keeps x.toInCall.keep, codeAny_func ?_⟩
  obtain ⟨t, ht, hq⟩ := hbody A outer s H vs Q E p cls d hot hz (hr.deeper _) hsp
  have I : Inv (cxH (L2N.CX P w) P w K mg base N qual scope f cdv A outer s H E p) [] (L2.start N vs) H s1 := inv_startH S hpin e0 hl r x
  refine wpAny_mono (ht.run [] s1 (L2.start N vs) H _ I hq) (fun fl s' hs => ?_) fun e s' hs => hs
  have fin : ∀ {σ' : L2.St} {H' : Hp} {v : V} {u : Value}, Inv (cxH (L2N.CX P w) P w K mg base N qual scope f cdv A outer s H E p) [] σ' H' s' → RelV v u → Q v H' → CE outer P w H s Q u s' :=
    fun {σ' H' v u} J rv q => ⟨v, H', J.os, J.bare, J.base, J.hok, rv, q⟩
  cases fl with
  | ret u =>
    obtain ⟨v, σ', H', J, rv, q⟩ := hs
    exact fin J rv q
  | next =>
    obtain ⟨σ', H', J, q⟩ := hs
    exact fin (v := V.non) (u := Value.none) J rfl q
  | brk =>
    obtain ⟨_, _, _, q⟩ := hs
    exact False.elim q
  | cont =>
    obtain ⟨_, _, _, q⟩ := hs
    exact False.elim q
theorem takes0N {X : Cx} : L2N.Takes X (fun _ _ _ _ => False) := fun _ _ x => by
  obtain ⟨_, _, _, _, _, _, _, _, _, _, _, _, _, _, _, _, z⟩ := x
  exact z.elim
section
variable {X : Cx} {k j : Nat} {f : Addr} {fd : FuncData} {ps : List Str} {sp : SpE} {a : Addr} {oe : Obj} {cls : Value} {d : Option Addr} {pn : List (Addr × Obj)} {x : Str} {q pos : Pos} {e : Expr} {es : List Expr} {t : TA}
theorem hot1_suite {A : Around} (hz : L2N.Zn cls d oe) (hf : ∃ vs, oe.data = .fields vs) : Hot1 (A.mark (some (.ref a))) (a, oe) := by
  obtain ⟨vs, hd⟩ := hf
  exact ⟨rfl, vs, hd, hz.2.2 vs hd⟩
theorem run_fnE {pins : List (Addr × Obj)} {σ : L2.St} {H : Hp} {s : Shared} {Q : VK} {us : List Value} {vs : List V} (F : FnE X.prog X.w X.K X.mg X.base k f fd ps sp) (hr : RoomH k X.A) (hb : Binds X.K fd ps [])
    (hot : Hot1 X.A (a, oe)) (hz : L2N.Zn cls d oe) (hp : (a, oe) ∈ X.pn) (I : Inv X pins σ H s) (r : Vals vs us) (h : sp a cls d vs H Q (fun _ _ _ => False)) : wpAny (model X.prog X.w) X.A (call (.ref f) us) (EP X pins σ Q) X.xe s := by
  have hl : us.length = ps.length := by rw [← r.length]; exact F.len _ _ _ _ _ _ _ h
  have b := hb s us I.kIn (by rw [List.append_nil]; exact hl)
  rw [List.append_nil] at b
  have P1 := I.pin (a, oe) (List.mem_append_left _ hp)
  have hpin : PinOk X.stack H s (a, oe) := ⟨P1.1, P1.2.1, fun hm => (List.mem_cons.mp (I.stkSub a hm)).elim P1.2.2.1 P1.2.2.2.1, P1.2.2.2.2⟩
  refine wpAny_call (codeAny_mono (F.run X.A X.stack s H ⟨us, []⟩ us vs Q _ (a, oe) cls d hr hot hz hpin I.env0 b r h) fun r s' hq => ?_)
  cases r with
  | error e =>
    obtain ⟨_, _, _, _, _, _, _, _, _, _, _, _, z⟩ := hq
    exact z.elim
  | ok fl =>
    cases fl with
    | ret u => exact I.after hq
    | next => exact False.elim hq
    | brk => exact False.elim hq
    | cont => exact False.elim hq
/-- f(e, ..) in the suite, f's promise told of the exception: its address, class, dict -/
def tCallE (sp : SpE) (a : Addr) (cls : Value) (d : Option Addr) (t : TA) : TE := fun σ H Q => t σ H fun vs H1 => sp a cls d vs H1 Q (fun _ _ _ => False)
theorem pe_callE (F : FnE X.prog X.w X.K X.mg X.base k f fd ps sp) (hr : RoomH k (X.A.mark (some (.ref a)))) (hz : L2N.Zn cls d oe) (hf : ∃ vs, oe.data = .fields vs) (hg : Gl X x) (hm : X.mg x = some (.ref f)) (hk : PySem.W.keepIn X.K (.ref f) = true) (hb : Binds X.K fd ps [])
    (ha : PA (X.suite a ((a, oe) :: pn)) (e :: es) t) (hdb : (x == ("__debug__" : Str)) = false := by decide) (he : starEach (e :: es) X.env = (false, eval e X.env) :: starEach es X.env := by rfl) (hpl : (backTo pos (starEach es X.env)).any (·.1) = false := by rfl) :
    PE (X.suite a ((a, oe) :: pn)) (.Call (.Name x q) (e :: es) [] pos) (tCallE sp a cls d t) := by
  refine ⟨fun pins s σ H Q I h => ?_⟩
  refine wpAny_Call_Name_kw (ld_glob (X := X.suite a ((a, oe) :: pn)) I hg hm ?_ hdb)
  refine PySem.W.callWith_K (h₀ := X.base) I.ok.mod.kin hk (thn (ha.run pos pins s σ H _ I h) fun us s1 ⟨vs, H1, I1, r, q⟩ => ⟨I1.kIn, ?_⟩) he hpl
  exact run_fnE (X := X.suite a ((a, oe) :: pn)) F hr hb (hot1_suite hz hf) hz List.mem_cons_self I1 r q
end
/-! ### isinstance(e, c), isinstance(e, (c1, c2, ..)), e.f: e an exception that is pinned -/
structure ExK (K : PySem.W.Frag) (D : Addr) : Prop where
  cl : (PySem.W.clsIn K D).isSome = true
  ga : PySem.W.findIn K (.ref D) "__getattribute__" = some (some (.builtin "BaseException.__getattribute__"))
  gg : PySem.W.findIn K (.ref D) "__getattr__" = some none
  ex : PySem.W.subIn K (.ref D) (.type "BaseException") = some true
  hd : PySem.W.hasDictIn K D = true
  ha : PySem.W.findIn K (.ref D) "__class__" = some (some (.builtin "object.__class__"))
  hn : PySem.W.specialIn K (.builtin "object.__class__") "__get__" = some (some (.builtin "getset_descriptor.__get__"))
  ht : PySem.W.takesIn K (.builtin "object.__class__") = some true
  hm : PySem.W.mroIn K D (.type "object") = some true
section
variable {X : Cx} {p : Addr × Obj} {D : Addr} {d : Option Addr} {pins : List (Addr × Obj)} {σ : L2.St} {H : Hp} {s : Shared}
/-- its dict stands, or there is none -/
def XdAt (H : Hp) (d : Option Addr) : Prop := d = none ∨ ∃ dd fs, d = some dd ∧ H dd = some (.xd fs)
theorem pin_inst (hz : L2N.Zn (.ref D) d p.2) (hf : ∃ vs, p.2.data = .fields vs) (hp : p ∈ X.pn) (I : Inv X pins σ H s) (hd : XdAt H d) : ∃ od, PySem.W.InstAt s.heap p.1 p.2 D od := by
  obtain ⟨hget, _⟩ := I.pin p (List.mem_append_left _ hp)
  obtain ⟨vs, hv⟩ := hf
  rcases hd with rfl | ⟨dd, fs, rfl, hx⟩
  · refine ⟨none, hget, hz.1, by unfold PySem.W.notCls; rw [hv] <;> rfl, ?_⟩
    rw [hz.2.1]
    trivial
  · have hx' : ObjOk X.prog X.w H s.heap dd (.xd fs) := I.hok dd _ hx
    obtain ⟨mA, hns, hr⟩ := hx'
    obtain ⟨od, ho, hl⟩ := lookIn_ns hns
    exact ⟨some od, hget, hz.1, by unfold PySem.W.notCls; rw [hv] <;> rfl, by rw [hz.2.1]; exact ho⟩
def rIsP (K : PySem.W.Frag) (D a : Addr) (d : Option Addr) : List V → Hp → VK → Prop := fun xs H Q => XdAt H d ∧
  ((∃ (c : V) (u : Value) (b : Bool), xs = [.ref a, c] ∧ ClsV c u ∧ PySem.W.kitOne K (.ref D) u = some b ∧ Q (.bl b) H) ∨
   (∃ (tp : Addr) (cs : List V) (us : List Value) (b : Bool), xs = [.ref a, .ref tp] ∧ H tp = some (.tup cs) ∧ Paired ClsV cs us ∧ PySem.W.kitAny K (.ref D) us = some b ∧ Q (.bl b) H))
theorem call_isP (T : ExK X.K D) (hz : L2N.Zn (.ref D) d p.2) (hf : ∃ vs, p.2.data = .fields vs) (hp : p ∈ X.pn) : CallR X (.builtin "isinstance") (rIsP X.K D p.1 d) := by
  intro pins s σ H xs us Q I r h
  obtain ⟨hd, h⟩ := h
  obtain ⟨od, J⟩ := pin_inst hz hf hp I hd
  rcases h with ⟨c, u, b, rfl, k, e, q⟩ | ⟨tp, cs, ws, b, rfl, hT, k, e, q⟩
  · obtain ⟨u1, u2, rfl, r1, r2⟩ := vals2 r
    have e2 := k.eq r2
    subst e2
    cases (show u1 = Value.ref p.1 from r1)
    exact PySem.W.kia_one (PySem.W.kitx_exc T.cl T.ga T.gg T.ex T.ha T.hn T.ht T.hm) I.kIn J e (fun z => nomatch z) fun tk => ⟨.bl b, H, I.tok tk, rfl, q⟩
  · obtain ⟨u1, u2, rfl, r1, r2⟩ := vals2 r
    cases (show u1 = Value.ref p.1 from r1)
    cases (show u2 = Value.ref tp from r2)
    obtain ⟨_, its, rv, o, h1, h2, n, h3⟩ := (show ObjOk X.prog X.w H s.heap tp (.tup cs) from I.hok tp _ hT)
    have e3 := ClsV.all k rv
    subst e3
    obtain ⟨oc, od', dt, sl⟩ := o
    simp only at h2 h3
    subst h2 h3
    exact PySem.W.kia_tup (PySem.W.kitx_exc T.cl T.ga T.gg T.ex T.ha T.hn T.ht T.hm) I.kIn J h1 e (fun z => nomatch z) fun tk => ⟨.bl b, H, I.tok tk, rfl, q⟩
/-- e.f -/
def tXp (a : Addr) (d : Option Addr) (f : Str) (te : TE) : TE := fun σ H Q => te σ H fun x H1 => x = .ref a ∧ ∃ (dd : Addr) (fs : List (Str × V)) (v : V), d = some dd ∧ H1 dd = some (.xd fs) ∧ fs.lookup f = some v ∧ Q v H1
theorem pe_xp {e : Expr} {te : TE} {pos : Pos} {n : Str} (T : ExK X.K D) (hno : PySem.W.findIn X.K (.ref D) n = some none) (hz : L2N.Zn (.ref D) d p.2) (hf : ∃ vs, p.2.data = .fields vs) (hp : p ∈ X.pn) (he : PE X e te)
    (hb : attributeBase e n X.env (eval e X.env) = eval e X.env := by rfl) : PE X (.Attribute e n pos) (tXp p.1 d n te) := by
  refine ⟨fun pins s σ H Q I h => ?_⟩
  refine attr_of hb (thn (he.run pins s σ H _ I h) fun u s1 hh => ?_)
  obtain ⟨x, H1, I1, rx, ex, dd, fs, v, ed, ea, l, q⟩ := hh
  subst ex
  obtain rfl : u = Value.ref p.1 := rx
  subst ed
  obtain ⟨ha, _⟩ := I1.pin p (List.mem_append_left _ hp)
  obtain ⟨vs, hd⟩ := hf
  have hx : ObjOk X.prog X.w H1 s1.heap dd (.xd fs) := I1.hok dd _ ea
  obtain ⟨mA, hns, hr⟩ := hx
  obtain ⟨od, ho, hl⟩ := lookIn_ns hns
  obtain ⟨u, hu, ru⟩ := RelO.some_of (v := v) (o := mA n) (by rw [← l]; exact hr n)
  have J : PySem.W.InstAt s1.heap p.1 p.2 D (some od) := ⟨ha, hz.1, by unfold PySem.W.notCls; rw [hd] <;> rfl, by rw [hz.2.1]; exact ho⟩
  exact HandSPX.exc_get I1.kIn J T.ga T.gg T.ex (PySem.W.findObj_own T.hd hno rfl (by rw [hl, hu])) (handed_of ru) ⟨v, H1, I1.tok _, ru, q⟩
end
/-! ### == by an own __eq__ -/
section
variable {X : Cx} {k j n : Nat} {f C : Addr} {sp : Sk}
def rEqOwn (K : PySem.W.Frag) (C : Addr) (sp : Sk) : R2 := fun x y H Q => ∃ (a dx : Addr) (fs : List (Str × V)) (t : Value), x = .ref a ∧ H a = some (.ins C dx fs) ∧ TyX K H y t ∧ PySem.W.notFirst K C t = true ∧
  sp [x, y] [] H (fun v H' => ∃ b, v = .bl b ∧ Q (.bl b) H') (fun _ _ _ => False)
theorem op_eqOwn (hc : Cls X.K C) (hm : Meth X.K C "__eq__" f) (c : CalK X.prog X.w X.K X.mg X.base k f n [] sp) (hr : Room j X.A) (hj : k ≤ j) : OpR X (compareOp .Eq) (rEqOwn X.K C sp) := by
  intro pins s σ H x y u v Q I rx ry h
  obtain ⟨a, dx, fs, t, rfl, ea, ty, hn, q⟩ := h
  obtain rfl : u = Value.ref a := rx
  obtain ⟨mA, O, _⟩ := ins_get I.hok ea
  obtain ⟨od, J, _⟩ := O.look
  obtain ⟨P, Z, p, _⟩ := kit_of I ry ty
  obtain ⟨m, fr⟩ := I.fr
  refine PySem.W.cmp_ofEq (PySem.W.cmp_K hr.units0 fr I.ok.mod.kin J (Z.ty _ _ I.kIn p) hn hm.at_ hm.fn ?_)
  refine wpAny_mono (run_cal (us := [.ref a, v]) (vs := [.ref a, y]) (ws := []) (zs := []) c (hr.mono hj) takes0N I (.cons rfl (.cons ry .nil)) .nil q) (fun r s' hh => ?_) fun _ _ z => z
  obtain ⟨w, H', I', rw', b, rfl, q'⟩ := hh
  obtain rfl : r = Value.bool b := rw'
  exact ⟨.bl b, H', I', rfl, q'⟩
end
end GX
/-! part GxE -/
set_option Elab.async false
set_option linter.all false
set_option maxRecDepth 100000
set_option maxHeartbeats 4000000
/-! bundles: a def that is called by its name, a method, a property, a static method, a class that is made -/
namespace GX
open PySem PySem.Spec PyProof.Rows L2
/-- a promise of positional values alone -/
def sk (sp : Sp) : Sk := fun vs zs H Q E => zs = [] ∧ sp vs H Q E
section
variable {P : Program} {w : World} {K : PySem.W.Frag} {mg : Str → Option Value} {base : Heap}
theorem FnOk.up {k : Nat} {f : Addr} {fd : FuncData} {ps : List Str} {sp : Sp} (F : FnOk P w K mg base CX0 k f fd ps sp) : FnOk P w K mg base (L2N.CX P w) k f fd ps sp :=
  ⟨F.len, fun A outer s H args us vs Q E hr he hb hv hs => codeAny_mono (F.run A outer s H args us vs Q E hr he hb hv hs) fun r s' hq => by
    cases r with
    | error e => exact False.elim hq
    | ok fl =>
      cases fl with
      | ret u => exact hq
      | next => exact False.elim hq
      | brk => exact False.elim hq
      | cont => exact False.elim hq⟩
theorem kbn_all {fd : FuncData} {ps : List Str} (b : Binds K fd ps []) : KBn K fd ps ps.length [] (fun us _ => us) (fun vs _ => vs) :=
  ⟨fun s us ws X l1 _ => by
    have z := b s us X (by rw [List.append_nil]; exact l1)
    rw [List.append_nil] at z
    exact z, fun r1 _ => r1⟩
theorem calK_of {k n : Nat} {f : Addr} {fd : FuncData} {ps : List Str} {sp : Sp} (F : FnOk P w K mg base (L2N.CX P w) k f fd ps sp) (b : Binds K fd ps []) (hn : ps.length = n) : CalK P w K mg base k f n [] (sk sp) := by
  subst hn
  exact ⟨fd, ps, sp, _, _, F, kbn_all b, fun vs zs H Q E h => ⟨F.len _ _ _ _ h.2, by rw [h.1]; rfl, h.2⟩⟩
/-- with a default or more at the end -/
theorem calK_df {k n m : Nat} {f : Addr} {fd : FuncData} {ps : List Str} {sp : Sp} {dvs : List V} (F : FnOk P w K mg base (L2N.CX P w) k f fd ps sp) (b : ∃ ds, Vals dvs ds ∧ Binds K fd ps ds) (hm : dvs.length = m) (hn : n + m = ps.length) : CalK P w K mg base k f n [] (sk fun vs H Q E => sp (vs ++ dvs) H Q E) := by
  obtain ⟨ds, rd, b⟩ := b
  refine ⟨fd, ps, sp, fun us _ => us ++ ds, fun vs _ => vs ++ dvs, F, ⟨fun s us ws X l1 _ => b s us X ?_, fun r1 _ => r1.append rd⟩, fun vs zs H Q E h => ⟨?_, by rw [h.1]; rfl, h.2⟩⟩
  · rw [List.length_append, ← rd.length]
    omega
  · have z := F.len _ _ _ _ h.2
    rw [List.length_append] at z
    omega
/-- with keywords -/
theorem calK_kw {k n : Nat} {f : Addr} {fd : FuncData} {ps ks : List Str} {sp : Sp} {g : List Value → List Value → List Value} {gV : List V → List V → List V} (F : FnOk P w K mg base (L2N.CX P w) k f fd ps sp) (b : KBn K fd ps n ks g gV) :
    CalK P w K mg base k f n ks (fun vs zs H Q E => vs.length = n ∧ zs.length = ks.length ∧ sp (gV vs zs) H Q E) := ⟨fd, ps, sp, g, gV, F, b, fun _ _ _ _ _ h => h⟩
theorem CalK.mono {j k n : Nat} {f : Addr} {ks : List Str} {sp : Sk} (c : CalK P w K mg base j f n ks sp) (h : j ≤ k) : CalK P w K mg base k f n ks sp := by
  obtain ⟨fd, ps, sp0, g, gV, F, b, q⟩ := c.ex
  exact ⟨fd, ps, sp0, g, gV, F.mono h, b, q⟩
theorem CalK.imp {k n : Nat} {f : Addr} {ks : List Str} {sp sp' : Sk} (c : CalK P w K mg base k f n ks sp) (h : ∀ vs zs H Q E, sp' vs zs H Q E → sp vs zs H Q E) : CalK P w K mg base k f n ks sp' := by
  obtain ⟨fd, ps, sp0, g, gV, F, b, q⟩ := c.ex
  exact ⟨fd, ps, sp0, g, gV, F, b, fun vs zs H Q E z => q _ _ _ _ _ (h _ _ _ _ _ z)⟩
end
/-- a def that is called by the name x -/
structure CalN (P : Program) (w : World) (K : PySem.W.Frag) (mg : Str → Option Value) (base : Heap) (k : Nat) (x : Str) (n : Nat) (ks : List Str) (sp : Sk) : Prop where
  ex : ∃ f, mg x = some (.ref f) ∧ PySem.W.keepIn K (.ref f) = true ∧ CalK P w K mg base k f n ks sp
/-- a class that is made by the name x -/
structure NewN (P : Program) (w : World) (K : PySem.W.Frag) (mg : Str → Option Value) (base : Heap) (k : Nat) (x : Str) (C : Addr) (n : Nat) (ks : List Str) (sp : Sk) : Prop where
  ex : ∃ f, mg x = some (.ref C) ∧ Mk K C f ∧ CalK P w K mg base k f (n + 1) ks sp
/-- a method -/
structure MetN (P : Program) (w : World) (K : PySem.W.Frag) (mg : Str → Option Value) (base : Heap) (k : Nat) (C : Addr) (m : Str) (n : Nat) (sp : Sk) : Prop where
  ex : ∃ f, Meth K C m f ∧ CalK P w K mg base k f n [] sp
structure StaN (P : Program) (w : World) (K : PySem.W.Frag) (mg : Str → Option Value) (base : Heap) (k : Nat) (C : Addr) (m : Str) (n : Nat) (sp : Sk) : Prop where
  ex : ∃ f, Stat K C m f ∧ CalK P w K mg base k f n [] sp
structure PrpN (P : Program) (w : World) (K : PySem.W.Frag) (mg : Str → Option Value) (base : Heap) (k : Nat) (C : Addr) (m : Str) (sp : Sk) : Prop where
  ex : ∃ p f, PropOf K C m p f ∧ CalK P w K mg base k f 1 [] sp
section
variable {X : Cx} {k j n : Nat} {C : Addr} {ks : List Str} {sp : Sk} {W : WX} {x m : Str} {p pos apos : Pos} {e o : Expr} {es : List Expr} {kws : List Keyword} {ta : TE} {t tk' : TA}
theorem pn_f (c : CalN X.prog X.w X.K X.mg X.base k x n [] sp) (hr : Room j X.A) (hj : k ≤ j) (tk : L2N.Takes X W) (hg : Gl X x) (ha : PA X (e :: es) t)
    (hdb : (x == ("__debug__" : Str)) = false := by decide) (he : starEach (e :: es) X.env = (false, eval e X.env) :: starEach es X.env := by rfl) (hpl : (backTo pos (starEach es X.env)).any (·.1) = false := by rfl) :
    PE X (.Call (.Name x p) (e :: es) [] pos) (tF sp W t tNil) := by
  obtain ⟨f, h1, h2, h3⟩ := c.ex
  exact pe_f h3 h1 h2 hr hj tk hg ha hdb he hpl
theorem pn_new (c : NewN X.prog X.w X.K X.mg X.base k x C n [] sp) (hr : Room j X.A) (hj : k + 1 ≤ j) (tk : L2N.Takes X W) (hg : Gl X x) (ha : PA X (e :: es) t)
    (hdb : (x == ("__debug__" : Str)) = false := by decide) (he : starEach (e :: es) X.env = (false, eval e X.env) :: starEach es X.env := by rfl) (hpl : (backTo pos (starEach es X.env)).any (·.1) = false := by rfl) :
    PE X (.Call (.Name x p) (e :: es) [] pos) (tNew C sp W t tNil) := by
  obtain ⟨f, h1, h2, h3⟩ := c.ex
  exact pe_new h2 h3 h1 hr hj tk hg ha hdb he hpl
theorem pn_newK (c : NewN X.prog X.w X.K X.mg X.base k x C n ks sp) (hr : Room j X.A) (hj : k + 1 ≤ j) (tk : L2N.Takes X W) (hg : Gl X x)
    (ha : PA X (e :: es) t) (hkw : PK X kws tk') (hall : (backToKw pos (keywordEach kws X.env)).all (·.1.isSome) = true := by rfl) (hks : (backToKw pos (keywordEach kws X.env)).filterMap (·.1) = ks := by rfl)
    (hdb : (x == ("__debug__" : Str)) = false := by decide) (he : starEach (e :: es) X.env = (false, eval e X.env) :: starEach es X.env := by rfl)
    (hpl : ((backTo pos (starEach (e :: es) X.env)).any (·.1) || (backToKw pos (keywordEach kws X.env)).any (·.1.isNone)) = false := by rfl) :
    PE X (.Call (.Name x p) (e :: es) kws pos) (tNew C sp W t tk') := by
  obtain ⟨f, h1, h2, h3⟩ := c.ex
  exact pe_newK h2 h3 h1 hr hj tk hg ha hkw hall hks hdb he hpl
/-- C(k = e, ..): keywords alone -/
theorem pn_newK0 (c : NewN X.prog X.w X.K X.mg X.base k x C n ks sp) (hr : Room j X.A) (hj : k + 1 ≤ j) (tk : L2N.Takes X W) (hg : Gl X x)
    (hkw : PK X kws tk') (hall : (backToKw pos (keywordEach kws X.env)).all (·.1.isSome) = true := by rfl) (hks : (backToKw pos (keywordEach kws X.env)).filterMap (·.1) = ks := by rfl)
    (hdb : (x == ("__debug__" : Str)) = false := by decide)
    (hpl : ((backTo pos (starEach [] X.env)).any (·.1) || (backToKw pos (keywordEach kws X.env)).any (·.1.isNone)) = false := by rfl) :
    PE X (.Call (.Name x p) [] kws pos) (tNew C sp W tNil tk') := by
  obtain ⟨f, hm, M, c⟩ := c.ex
  refine ⟨fun pins s σ H Q I h => ?_⟩
  refine wpAny_Call_Name_kw (ld_glob I hg hm ?_ hdb)
  refine PySem.W.callWith_KW0 (h₀ := X.base) I.ok.mod.kin M.kp hall (thn (hkw.run pos pins s σ H _ I h) fun ws s2 ⟨zs, H2, I2, rz, q2⟩ => ⟨I2.kIn, ?_⟩) hpl
  rw [hks]
  exact run_new (us := []) (vs := []) M c (hr.mono hj) tk I2 .nil rz q2
theorem pn_m {pl : Sem Bool} (hc : Cls X.K C) (c : MetN X.prog X.w X.K X.mg X.base k C m n sp) (hr : Room j X.A) (hj : k ≤ j) (tk : L2N.Takes X W) (he : PE X o ta) (ha : PA X (e :: es) t)
    (hst : starEach (e :: es) X.env = (false, eval e X.env) :: starEach es X.env := by rfl) (hpl : (backTo pos (starEach es X.env)).any (·.1) = false := by rfl)
    (ht : eval (.Call (.Attribute o m apos) (e :: es) [] pos) X.env = (do
      let ov ← eval o X.env
      standAt apos.atName
      let (f, first) ← holding [ov] (getMethod ov m pl)
      callWith pos f first (backTo pos (starEach (e :: es) X.env)) (backToKw pos (keywordEach [] X.env))) := by rfl) :
    PE X (.Call (.Attribute o m apos) (e :: es) [] pos) (tM C m sp W ta t) := by
  obtain ⟨f, h1, h2⟩ := c.ex
  exact pe_m hc h1 h2 hr hj tk he ha hst hpl ht
theorem pn_m0 {pl : Sem Bool} (hc : Cls X.K C) (c : MetN X.prog X.w X.K X.mg X.base k C m n sp) (hr : Room j X.A) (hj : k ≤ j) (tk : L2N.Takes X W) (he : PE X o ta)
    (ht : eval (.Call (.Attribute o m apos) [] [] pos) X.env = (do
      let ov ← eval o X.env
      standAt apos.atName
      let (f, first) ← holding [ov] (getMethod ov m pl)
      callWith pos f first (backTo pos (starEach [] X.env)) (backToKw pos (keywordEach [] X.env))) := by rfl) :
    PE X (.Call (.Attribute o m apos) [] [] pos) (tM C m sp W ta tNil) := by
  obtain ⟨f, h1, h2⟩ := c.ex
  exact pe_m0 hc h1 h2 hr hj tk he ht
theorem pn_st {pl : Sem Bool} (c : StaN X.prog X.w X.K X.mg X.base k C m n sp) (hr : Room j X.A) (hj : k ≤ j) (tk : L2N.Takes X W) (he : PE X o ta) (ha : PA X (e :: es) t)
    (hst : starEach (e :: es) X.env = (false, eval e X.env) :: starEach es X.env := by rfl) (hpl : (backTo pos (starEach es X.env)).any (·.1) = false := by rfl)
    (ht : eval (.Call (.Attribute o m apos) (e :: es) [] pos) X.env = (do
      let ov ← eval o X.env
      standAt apos.atName
      let (f, first) ← holding [ov] (getMethod ov m pl)
      callWith pos f first (backTo pos (starEach (e :: es) X.env)) (backToKw pos (keywordEach [] X.env))) := by rfl) :
    PE X (.Call (.Attribute o m apos) (e :: es) [] pos) (tS C sp W ta t) := by
  obtain ⟨f, h1, h2⟩ := c.ex
  exact pe_st h1 h2 hr hj tk he ha hst hpl ht
/-- o.p, a property of the class at C -/
def tP (C : Addr) (sp : Sk) (ta : TE) : TE := fun σ H Q => ta σ H fun x H1 => ∃ a dx fs, x = .ref a ∧ H1 a = some (.ins C dx fs) ∧ sp [.ref a] [] H1 Q (fun _ _ _ => False)
theorem pn_p (hc : Cls X.K C) (c : PrpN X.prog X.w X.K X.mg X.base k C m sp) (hr : Room j X.A) (hj : k + 1 ≤ j) (he : PE X o ta) (hab : attributeBase o m X.env (eval o X.env) = eval o X.env := by rfl) : PE X (.Attribute o m pos) (tP C sp ta) := by
  obtain ⟨pr, g0, hp, c⟩ := c.ex
  obtain ⟨fd, ps, sp0, g, gV, F, hb, hsp⟩ := c.ex
  refine ⟨fun pins s σ H Q I h => ?_⟩
  refine attr_of hab (thn (he.run pins s σ H _ I h) fun u s1 ⟨x, H1, I1, rx, a, dx, fs, ex, ea, q⟩ => ?_)
  subst ex
  obtain rfl : u = Value.ref a := rx
  obtain ⟨l1, l2, h0⟩ := hsp _ _ _ _ _ q
  obtain ⟨mA, O, _, _, _, _⟩ := ins_get I1.hok ea
  obtain ⟨od, J, _⟩ := O.look
  obtain ⟨rest, hrec⟩ := hp.rec_
  have I2 := I1.tok (s1.toks + 1)
  have hcl : (PySem.W.clsIn X.K C).isSome = true := by
    obtain ⟨cd, hc, _⟩ := PySem.W.any_some hc.hd
    rw [hc]
    rfl
  refine PySem.W.get_bind I1.kIn J (PySem.W.plainGet_of (hc.get m)).1 (PySem.W.findObj_data hcl hp.at_ hp.get hp.tak) (PySem.W.plainGet_of (hc.get m)).2 (wpAny_call (PySem.W.prop_get (s := { s1 with toks := s1.toks + 1 }) I1.kIn hrec ?_))
  have r1 : Vals [V.ref a] [Value.ref a] := .cons rfl .nil
  refine codeAny_mono (F.run X.A.in1 X.stack { s1 with toks := s1.toks + 1 } H1 ⟨[.ref a], []⟩ (g [.ref a] []) (gV [.ref a] []) Q _ (hr.mono hj).in1 I2.env0.in1 (hb.to _ [.ref a] [] I1.kIn rfl rfl) (hb.rel r1 .nil) h0) fun r s' hq => ?_
  cases r with
  | error er =>
    obtain ⟨_, _, _, _, _, _, _, _, _, _, _, _, z⟩ := hq
    exact z.elim
  | ok fl =>
    cases fl with
    | ret u =>
      obtain ⟨v, H', I3, rv, q3⟩ := I2.after hq
      show wpAny _ _ (handedOut u) _ _ _
      rw [PySem.W.handedOut_of (handed_of rv)]
      exact wpAny_pure ⟨v, H', I3, rv, q3⟩
    | next => exact False.elim hq
    | brk => exact False.elim hq
    | cont => exact False.elim hq
end
/-- nothing leaves it -/
abbrev W0 : WX := fun _ _ _ _ => False
end GX
/-! part GxF -/
set_option Elab.async false
set_option linter.all false
set_option maxRecDepth 100000
set_option maxHeartbeats 4000000
/-! max of a tuple of ints; small helpers -/
namespace GX
open PySem PySem.Spec PyProof.Rows L2
section
variable {prog : Program} {w : World} {A : Around} {E : Value → Shared → Prop} {s : Shared} {l : Addr}
theorem max_intTuple {xs : Array (Int × Tok)} {Q : Value → Shared → Prop} (hh : A.handled = none) (hl : s.heap.IsTuple l (intItems xs)) (hne : 0 < xs.size)
    (h : ∀ v h' tk, (intItems xs)[argBest (fun i j => decide (numAt xs i > numAt xs j)) (xs.size - 1)]? = some v → (∀ b o, s.heap.get? b = some o → h'.get? b = some o) → Q v { s with heap := h', toks := tk }) :
    wpAny (model prog w) A (call (.builtin "max") [.ref l]) Q E s := by
  have hlt : l < s.heap.objs.size := by obtain ⟨_, e, _⟩ := hl; exact Heap.lt_size e
  refine call_max_walk (wpAny_pyIter_tuple hl ?_)
  refine ⟨_, [s.heap.objs.size, l], [_], _, _, _, _, rfl, Walks.tuple (A := A.in1) hh _ l (Nat.ne_of_lt hlt) (intItems xs), ⟨⟨_, Heap.get?_push_size _ rfl, rfl, rfl⟩, hl.push _⟩, fun c hc => ?_, by simpa [intItems] using hne, CmpOf.ints_gt (numAt xs) (fun _ _ => intItems_at), fun v h' tk hP hk => ?_⟩
  · show c < (s.heap.push _).objs.size
    rw [Heap.size_push]
    rcases List.mem_cons.mp hc with rfl | hc
    · exact Nat.lt_succ_self _
    · rcases List.mem_cons.mp hc with rfl | hc
      · exact Nat.lt_succ_of_lt hlt
      · cases hc
  · refine h v h' tk (by simpa [intItems] using hP) fun b o e => hk b o (fun hm => ?_) (Heap.get?_push_of_some _ e)
    rcases List.mem_cons.mp hm with e1 | hm
    · exact absurd (e1 ▸ Heap.lt_size e) (Nat.lt_irrefl _)
    · cases hm
theorem max_rawT {its : List Value} {ns : List Int} {Q : Value → Shared → Prop} (hh : A.handled = none) (hl : s.heap.IsTuple l its.toArray) (hi : IntsAre its ns) (hne : 0 < ns.length)
    (h : ∀ h' tk M t', (∀ b o, s.heap.get? b = some o → h'.get? b = some o) → M ∈ ns → (∀ a, a ∈ ns → a ≤ M) → Q (.int M t') { s with heap := h', toks := tk }) : wpAny (model prog w) A (call (.builtin "max") [.ref l]) Q E s := by
  obtain ⟨xs, e⟩ := hi.allInts.items
  have hn : numsOf (intItems xs).toList = ns := by rw [← e]; exact hi.numsOf
  rw [nums_intItems] at hn
  subst hn
  rw [e] at hl
  have hsz : 0 < xs.size := by simpa using hne
  refine max_intTuple hh hl hsz fun v h' tk hv hk => ?_
  obtain ⟨t, rfl⟩ := intItems_at hv
  obtain ⟨h1, h2⟩ := argBest_gt (numAt xs) (xs.size - 1)
  refine h h' tk _ t hk ?_ fun a ha => ?_
  · rw [numAt_eq]; exact PySem.getD_mem (by rw [List.length_map, Array.length_toList]; omega)
  · obtain ⟨j, hj, rfl⟩ := mem_getD ha
    rw [List.length_map, Array.length_toList] at hj
    rw [← numAt_eq]; exact h2 j (by omega)
end
section
variable {X : Cx}
/-- max(t), t a tuple of ints -/
def rMaxT (K : PySem.W.Frag) : List V → Hp → VK → Prop := fun vs H Q => ∃ (a : Addr) (ns : List Int), vs = [V.ref a] ∧ SqT K H a (ns.map V.int) ∧ 0 < ns.length ∧ ∀ m, m ∈ ns → (∀ y, y ∈ ns → y ≤ m) → Q (.int m) H
theorem cr_maxT (hc : X.calm = true) : CallR X (.builtin "max") (rMaxT X.K) := by
  intro pins s σ H vs us Q I r h
  obtain ⟨a, ns, rfl, hs, hne, q⟩ := h
  obtain ⟨its, rv, hl, _⟩ := I.tuple hs
  rw [Vals.ref1 r]
  exact max_rawT (I.ok.hd hc) hl rv.ints hne fun h' tk m t' hk h1 h2 => ⟨.int _, H, I.kept hk, ⟨_, rfl⟩, q m h1 h2⟩
end
/-! ### heaps: all but one kept -/
def Kp (b : Addr) (H H' : Hp) : Prop := ∀ c o, H c = some o → c ≠ b → H' c = some o
theorem Kp.refl (b : Addr) (H : Hp) : Kp b H H := fun _ _ e _ => e
theorem Kp.trans {b : Addr} {H H1 H2 : Hp} (a : Kp b H H1) (c : Kp b H1 H2) : Kp b H H2 := fun x o e n => c x o (a x o e n) n
theorem Same.kp {b : Addr} {H H' : Hp} (s : Same H H') : Kp b H H' := fun c o e _ => s c o e
theorem Same.put {H : Hp} {p : Addr} {o : HO} (n : H p = none) : Same H (upd H p o) := fun c u e => by rw [upd_ne (ne_of_none e n)]; exact e
theorem Kp.put {b : Addr} {H : Hp} {o : HO} : Kp b H (upd H b o) := fun c u e n => by rw [upd_ne n]; exact e
theorem Same.sqT {K : PySem.W.Frag} {H H' : Hp} {a : Addr} {xs : List V} (e : Same H H') (h : SqT K H a xs) : SqT K H' a xs := by
  rcases h with (h | ⟨o, h⟩) | h
  · exact .inl (.inl (e _ _ h))
  · exact .inl (.inr ⟨o, e _ _ h⟩)
  · exact .inr h
theorem Kp.sqT {K : PySem.W.Frag} {H H' : Hp} {a b : Addr} {xs : List V} (e : Kp b H H') (h : SqT K H a xs) (n : a ≠ b) : SqT K H' a xs := by
  rcases h with (h | ⟨o, h⟩) | h
  · exact .inl (.inl (e _ _ h n))
  · exact .inl (.inr ⟨o, e _ _ h n⟩)
  · exact .inr h
theorem Kp.sqL {K : PySem.W.Frag} {H H' : Hp} {a b : Addr} {xs : List V} (e : Kp b H H') (h : SqL K H a xs) (n : a ≠ b) : SqL K H' a xs := by
  rcases h with (h | ⟨o, h⟩) | h
  · exact .inl (.inl (e _ _ h n))
  · exact .inl (.inr ⟨o, e _ _ h n⟩)
  · exact .inr h
end GX
/-! part GxG -/
set_option Elab.async false
set_option linter.all false
set_option maxRecDepth 100000
set_option maxHeartbeats 4000000
/-! readings of comprehensions: over a text; two ranges -/
namespace GX
open PySem PySem.Spec PyProof.Rows L2
theorem lc_str {x : Str} {g : TG} {tt : TT} {te : TE} {vs : List Nat} {σ : L2.St} {H1 : Hp} {D : Addr} {Qd : Hp → Prop} (Pv : Nat → Hp → Prop) (h0 : Pv 0 (upd H1 D (.lst [])))
    (hs : ∀ (i c : Nat) (H : Hp), x.cps.toList[i]? = some c → Pv i H → g (.str ⟨#[c]⟩) (wipe σ vs) H fun σ2 H2 => wipe σ2 vs = wipe σ vs ∧ tt σ2 H2 fun b H3 =>
      if b = true then te σ2 H3 fun y H4 => ∃ acc, H4 D = some (.lst acc) ∧ acc.length < sizeLine ∧ Pv (i + 1) (upd H4 D (.lst (acc ++ [y]))) else Pv (i + 1) H3) (hd : ∀ H, Pv x.cps.toList.length H → Qd H) :
    ∃ W : Nat → Nat → Hp → Prop, (∃ m, W 0 m (upd H1 D (.lst []))) ∧ ∀ i m H, W i m H →
      ((Its x).stop i H ∧ Qd H) ∨ ((Its x).go i H ∧ ∃ Nx : Hp → Prop, (∀ H', Nx H' → ∃ m', m' < m ∧ W (i + 1) m' H') ∧ ∀ v H', (Its x).yld i H v H' → g v (wipe σ vs) H' fun σ2 H2 => wipe σ2 vs = wipe σ vs ∧ tt σ2 H2 fun b H3 =>
        if b = true then te σ2 H3 fun y H4 => ∃ acc, H4 D = some (.lst acc) ∧ acc.length < sizeLine ∧ Nx (upd H4 D (.lst (acc ++ [y]))) else Nx H3) := by
  have hz : x.cps.toList.length = x.cps.size := Array.length_toList
  refine ⟨fun i m H => m = x.cps.size - i ∧ i ≤ x.cps.size ∧ Pv i H, ⟨x.cps.size, by simp, Nat.zero_le _, h0⟩, ?_⟩
  rintro i m H ⟨rfl, hi, p⟩
  by_cases hlt : i < x.cps.size
  · refine .inr ⟨hlt, Pv (i + 1), fun H' p' => ⟨x.cps.size - (i + 1), by omega, rfl, hlt, p'⟩, fun v H' y => ?_⟩
    obtain ⟨e, c, hc, rfl⟩ := y
    subst e
    exact hs i c _ (by rw [Array.getElem?_toList]; exact hc) p
  · have e : i = x.cps.size := by omega
    subst e
    exact .inl ⟨Nat.le_refl _, hd H (by rw [hz]; exact p)⟩
/-- for i, x in enumerate(xs), the list stands still -/
theorem for_enum {K : PySem.W.Frag} {a : Addr} {xs : List V} {g : TG} {tb : TS} {D : Ends} {σ : L2.St} {H : Hp} (Pv : Nat → L2.St → Hp → Prop) (h0 : Pv 0 σ H) (hl : ∀ i σ H, i ≤ xs.length → Pv i σ H → SqL K H a xs)
    (hs : ∀ (i : Nat) (x : V) (T : Addr) (σ : L2.St) (H : Hp), xs[i]? = some x → H T = none → Pv i σ H → g (.ref T) σ (upd H T (.tup [.int (i : Nat), x])) fun σ2 H2 => tb { D with nx := Pv (i + 1), ct := Pv (i + 1), bk := D.nx } σ2 H2) (hd : ∀ σ H, Pv xs.length σ H → D.nx σ H) :
    ∃ W : Nat → Nat → L2.St → Hp → Prop, (∃ m, W 0 m σ H) ∧ ∀ i m σ H, W i m σ H →
      ((Ite K a).stop i H ∧ D.nx σ H) ∨ ((Ite K a).go i H ∧ ∃ N : L2.St → Hp → Prop, (∀ σ' H', N σ' H' → ∃ m', m' < m ∧ W (i + 1) m' σ' H') ∧ ∀ v H', (Ite K a).yld i H v H' → g v σ H' fun σ2 H2 => tb { D with nx := N, ct := N, bk := D.nx } σ2 H2) := by
  refine ⟨fun i m σ H => m = xs.length - i ∧ i ≤ xs.length ∧ Pv i σ H, ⟨xs.length, rfl, Nat.zero_le _, h0⟩, ?_⟩
  rintro i m σ H ⟨rfl, hi, p⟩
  have q := hl i σ H hi p
  by_cases hlt : i < xs.length
  · have hx : xs[i]? = some xs[i] := List.getElem?_eq_getElem hlt
    refine .inr ⟨⟨xs, _, q, hx⟩, Pv (i + 1), fun σ' H' p' => ⟨xs.length - (i + 1), by omega, rfl, hlt, p'⟩, fun v H' y => ?_⟩
    obtain ⟨T, x, rfl, hT, rfl, f⟩ := y
    exact hs i x T σ H (f xs q) hT p
  · have e : i = xs.length := by omega
    subst e
    exact .inl ⟨⟨xs, q, Nat.le_refl _⟩, hd σ H p⟩
end GX
/-! part GxH -/
set_option Elab.async false
set_option linter.all false
set_option maxRecDepth 100000
set_option maxHeartbeats 4000000
/-! the facts of an own exception class, as they are read off the written part -/
namespace GX
open PySem PySem.W PySem.Spec PyProof.Rows L2
theorem exs_mk {prog : Program} {K : Frag} {h : Heap} {mg : Str → Option Value} {B newId initId : String} {bmB : List Value} {C fI : Addr} {f x : Str} {st : Stmt} {oc : Value} {od : Option Addr} {qual : Str} {doc pm : Value} {an : Option Addr} {cda : Addr} {ct : Value} {osl : Array (Option Value)} {cc : Addr} {ar : Arg}
    {ccl cl : Value} {cdd cld : Option Addr} {vs : Array Value} {ccs csl : Array (Option Value)} {file : Str} {tf : Tok} {p0 p1 p2 p3 p4 p5 q1 q2 q3 q4 : Pos} {j : Nat} {m : Str} (X : K.In h) (G : h.Ns mainGlobals mg)
    (aC : nsIn K mainGlobals x = some (some (.ref C))) (at_ : findIn K (.ref C) "__init__" = some (some (.ref fI))) (fn : isFn K (.ref fI) = true)
    (l : K.lookup fI = some ⟨oc, od, .func (ksFn "__init__" qual (defArgs st) (defBody st) (defScope st) .none .none doc pm an (.ref cda) ct cc), osl⟩) (lc : codeIn K (.ref cda) qual = true)
    (ld : K.lookup cda = some ⟨ccl, cdd, .fields vs, ccs⟩) (lcc : K.lookup cc = some ⟨cl, cld, .cell (some (.ref C)), csl⟩)
    (q : excInitIn K C bmB newId = true) (ov : excOver K C bmB = true) (sa : findIn K (.ref C) "__setattr__" = some (some (.builtin "object.__setattr__"))) (no : findIn K (.ref C) f = some none) (hd : hasDictIn K C = true) (subB : subIn K (.ref C) (.type B) = some true)
    (sup : ks_superIn K C C "__init__" = some (some (.builtin initId))) (mro : mroIn K C (.ref C) = some true) (opq : nsIn K cStatics "thirdparty.any" = some none) (ns : nsIn K mainGlobals "super" = some none)
    (kC : keepIn K (.ref C) = true) (exC : subIn K (.ref C) (.type "BaseException") = some true) (tyC : typeIn K (.ref C) = some (.type "type"))
    (hvs : vs[2]? = some (.str file tf)) (hfile : ((prog.main.file : Str) == file) = true) (hb : defBody st = exB p0 p1 p2 p3 p4 p5 q1 q2 q3 q4 j m f) (top : (prog.main.scope.names.lookup ("super" : Str)).isSome = false) (fne : ("self" : Str) ≠ f) (fdb : (f == ("__debug__" : Str)) = false)
    (hhd : ((defArgs st).posonlyargs ++ (defArgs st).args).head? = some ar) (har : ar.arg = "self")
    (bi : ∀ us : List Value, us.length = 2 → bindArgs (ksFn "__init__" qual (defArgs st) (exB p0 p1 p2 p3 p4 p5 q1 q2 q3 q4 j m f) (defScope st) .none .none doc pm an (.ref cda) ct cc) ⟨us, []⟩ = pure ((["self", f] : List Str).zip us))
    (hcell : ∀ x ∈ (defScope st).names, x.2 ≠ .cell) (k1 : (defScope st).names.lookup ("self" : Str) = some .local) (k2 : (defScope st).names.lookup f = some .local) (k3 : (defScope st).names.lookup ("super" : Str) = some .globalImplicit) (k4 : (defScope st).names.lookup ("__class__" : Str) = some .free)
    (k5 : (defScope st).isCoroutine = false) (k6 : (defScope st).isGenerator = false) (k7 : (defScope st).kind = .function)
    (pl : Sem Bool) (he : ∀ env : Env, eval (.Call (.Attribute (.Call (.Name "super" p0) [] [] p1) "__init__" p2) [.Constant (.str m) j p3] [] p4) env = (do
      let ov ← attributeBase (.Call (.Name "super" p0) [] [] p1) "__init__" env (eval (.Call (.Name "super" p0) [] [] p1) env)
      standAt p2.atName
      let (f, first) ← holding [ov] (getMethod ov "__init__" pl)
      callWith p4 f first (backTo p4 (starEach [.Constant (.str m) j p3] env)) [])) :
    Exs prog K mg B newId initId bmB C fI f ∧ ExR K mg x C := by
  rw [hb] at l
  exact ⟨⟨q, ov, sa, no, hd, subB, sup, mro, opq, mg_none_of X G ns, top, fne, fdb, ⟨at_, fn, oc, od, qual, defArgs st, defScope st, doc, pm, an, cda, ct, osl, cc, ar, ccl, cl, cdd, cld, vs, ccs, csl, file, tf, p0, p1, p2, p3, p4, p5, q1, q2, q3, q4, j, m, l, lc, ld, hvs, hfile, lcc, hhd, har, bi, hcell, k1, k2, k3, k4, k5, k6, k7, pl, he⟩⟩, ⟨mg_of X G aC, kC, exC, tyC⟩⟩
end GX
/-! part GxI -/
set_option Elab.async false
set_option linter.all false
set_option maxRecDepth 100000
set_option maxHeartbeats 4000000
/-! while an exception is handled: the ends of lists and tuples, tuple targets, list comprehensions -/
namespace GX
open PySem PySem.Spec PyProof.Rows L2 HotX
section
variable {prog : Program} {w : World} {A : Around} {E : Value → Shared → Prop} {s : Shared}
theorem hot_ne {it x1 a : Addr} {o : Obj} {u v : Value} (hot : HotAt A x1 s.heap) (ho : s.heap.get? it = some o) (hd : o.data = .fields #[u, v]) : x1 ≠ it := fun e => by
  obtain ⟨_, o1, vs1, h1, d1, c1⟩ := hot
  rw [e, ho] at h1
  cases h1
  rw [hd] at d1
  cases d1
  cases c1
/-- the rest of a turn that finds nothing more, the iterator at it -/
theorem stop_hot {it x1 : Addr} {o : Obj} {u v : Value} {Q : Option Value → Shared → Prop} (hot : HotAt A x1 s.heap) (ho : s.heap.get? it = some o) (hd : o.data = .fields #[u, v])
    (hQ : ∀ h', Heap.ExtBut it s.heap h' → Q none { s with heap := h' }) (h1 : Heap) (e1 : h1 = s.heap.update it (Obj.mapFields (·.setIfInBounds 0 .none))) :
    wpAny (model prog w) A.in1 (Builtin.SmallTypes.stopIteration : Sem PySem.Fin) (fun r s' => False) (fun e s' => wpAny (model prog w) A (isInstance e (.type "StopIteration")) (fun b s2 => b = true ∧ Q none s2) E s') { s with heap := h1 } := by
  subst e1
  have ne := hot_ne (a := it) hot ho hd
  obtain ⟨hh, o1, vs1, q1, d1, c1⟩ := hot
  have q1' : (s.heap.update it (Obj.mapFields (·.setIfInBounds 0 .none))).get? x1 = some o1 := (Heap.get?_update_ne _ _ _ _ ne).trans q1
  show wpAny _ _ (newExc (.type "StopIteration") [] >>= _) _ _ _
  refine wpAny_bind ?_
  simp only [newExc, newTuple]
  refine wpAny_bind (wpAny_newObj_type ?_ (by size_fits))
  refine wpAny_bind (m := firstArgMember _ _) (wpAny_of_eq (a := Value.none) (by first | rfl | (simp only [firstArgMember]; rfl)) ?_)
  refine wpAny_newObj_type ?_ (by size_fits)
  refine raiseNew_hot (A := A.in1) ⟨hh, o1, vs1, Heap.get?_push_of_some _ (Heap.get?_push_of_some _ q1'), d1, c1⟩ (Nat.ne_of_lt (Heap.lt_size (Heap.get?_push_of_some _ q1'))) (Heap.get?_push_size _ rfl) rfl (by first | (simp; done) | (simp; omega)) ?_
  refine wpAny_isInstance (T := "StopIteration") (b := true) ⟨_, Heap.get?_update_self _ (Heap.get?_push_size _ rfl) rfl, rfl⟩ isSubtype_stop ?_
  refine ⟨rfl, hQ _ fun b u hb e => ?_⟩
  have e2 : (s.heap.update it (Obj.mapFields (·.setIfInBounds 0 .none))).get? b = some u := (Heap.get?_update_ne _ _ _ _ hb).trans e
  rw [Heap.get?_update_other _ _ (Nat.ne_of_gt (Heap.lt_size (Heap.get?_push_of_some _ e2)))]
  exact Heap.get?_push_of_some _ (Heap.get?_push_of_some _ e2)
theorem list_end_hot {it l x1 : Addr} {i : Nat} {items : Array Value} {Q : Option Value → Shared → Prop} (hot : HotAt A x1 s.heap) (hit : s.heap.IsListIter it l i) (hl : s.heap.IsList l items) (hx : items[i]? = none)
    (hQ : ∀ h', Heap.ExtBut it s.heap h' → Q none { s with heap := h' }) : wpAny (model prog w) A (pyNext (.ref it)) Q E s := by
  obtain ⟨o, ho, hc, hd⟩ := id hit
  obtain ⟨ol, hol, _, nl, hdl⟩ := hl
  unfold pyNext
  refine wpAny_bind (wpAny_attempt (wpAny_callSpecial?_slot (name := Str.ofString "__next__") hit.typeIs slot_listiter_next (wpAny_call_entry slot_listiter_next hit.typeIs entry_listiter_next ?_ (args_listiter_next _))))
  show wpAny _ _ (field (.ref it) 0 >>= _) _ _ s
  refine wpAny_bind (wpAny_field ho hd (x := .ref l) rfl ?_)
  show wpAny _ _ (if (Value.ref l == Value.none) = true then _ else _) _ _ s
  rw [if_neg (show ¬ ((Value.ref l == Value.none) = true) from Bool.false_ne_true)]
  show wpAny _ _ (field (.ref it) 1 >>= _) _ _ s
  refine wpAny_bind (wpAny_field ho hd (x := .int i 0) rfl ?_)
  show wpAny _ _ (seqItems? (.ref l) >>= _) _ _ s
  refine wpAny_bind (wpAny_seqItems hol hdl ?_)
  simp only [Int.toNat_natCast, hx]
  refine wpAny_bind (wpAny_rule (wpAny_bind (wpAny_setField ho hd (by simp) ?_)))
  refine wpAny_mono (stop_hot (E := E) hot ho hd hQ _ rfl) (fun _ _ z => False.elim z) fun e s' h => ?_
  refine wpAny_bind (wpAny_mono h (fun b s2 hb => ?_) fun _ _ z => z)
  obtain ⟨rfl, hq⟩ := hb
  exact wpAny_pure hq
theorem tuple_end_hot {it l x1 : Addr} {i : Nat} {items : Array Value} {Q : Option Value → Shared → Prop} (hot : HotAt A x1 s.heap) (hit : s.heap.IsTupleIter it l i) (hl : s.heap.IsTuple l items) (hx : items[i]? = none)
    (hQ : ∀ h', Heap.ExtBut it s.heap h' → Q none { s with heap := h' }) : wpAny (model prog w) A (pyNext (.ref it)) Q E s := by
  obtain ⟨o, ho, hc, hd⟩ := id hit
  obtain ⟨ol, hol, _, nl, hdl⟩ := hl
  unfold pyNext
  refine wpAny_bind (wpAny_attempt (wpAny_callSpecial?_slot (name := Str.ofString "__next__") hit.typeIs F.slot_tuple_iterator_next (wpAny_call_entry F.slot_tuple_iterator_next hit.typeIs F.entry_tuple_iterator_next ?_ (F.args_tuple_iterator_next_1 _))))
  show wpAny _ _ (field (.ref it) 0 >>= _) _ _ s
  refine wpAny_bind (wpAny_field ho hd (x := .ref l) rfl ?_)
  show wpAny _ _ (if (Value.ref l == Value.none) = true then _ else _) _ _ s
  rw [if_neg (show ¬ ((Value.ref l == Value.none) = true) from Bool.false_ne_true)]
  show wpAny _ _ (field (.ref it) 1 >>= _) _ _ s
  refine wpAny_bind (wpAny_field ho hd (x := .int i 0) rfl ?_)
  show wpAny _ _ (seqItems? (.ref l) >>= _) _ _ s
  refine wpAny_bind (wpAny_seqItems hol hdl ?_)
  simp only [Int.toNat_natCast, hx]
  refine wpAny_bind (wpAny_rule (wpAny_bind (wpAny_setField ho hd (by simp) ?_)))
  refine wpAny_mono (stop_hot (E := E) hot ho hd hQ _ rfl) (fun _ _ z => False.elim z) fun e s' h => ?_
  refine wpAny_bind (wpAny_mono h (fun b s2 hb => ?_) fun _ _ z => z)
  obtain ⟨rfl, hq⟩ := hb
  exact wpAny_pure hq
theorem HotAt.keeps {x1 : Addr} {h h' : Heap} (hot : HotAt A x1 h) (k : ∀ o, h.get? x1 = some o → h'.get? x1 = some o) : HotAt A x1 h' := by
  obtain ⟨hh, o, vs, e, d, c⟩ := hot
  exact ⟨hh, o, vs, k o e, d, c⟩
theorem unpackItems_hot {t x1 : Addr} {items : Array Value} {Q : List Value → Shared → Prop} (hot : HotAt A x1 s.heap) (ht : s.heap.IsTuple t items)
    (hQ : ∀ h', Heap.ExtBut s.heap.objs.size s.heap h' → Q items.toList { s with heap := h' }) : wpAny (model prog w) A (unpackItems (.ref t) items.size none) Q E s := by
  have hlt : t ≠ s.heap.objs.size := by obtain ⟨o, ho, _⟩ := ht; exact Nat.ne_of_lt (Heap.lt_size ho)
  have hx1 : x1 ≠ s.heap.objs.size := by
    obtain ⟨_, o, _, ho, _⟩ := hot
    exact Nat.ne_of_lt (Heap.lt_size ho)
  unfold unpackItems
  refine wpAny_bind ?_
  unfold notIterableAtAll
  refine wpAny_bind (wpAny_specialOf ht.typeIs F.slot_tuple_iter.lookup ?_)
  refine wpAny_pure ?_
  simp only [Bool.false_eq_true, if_false]
  refine wpAny_bind (wpAny_holding (wpAny_pyIter_tuple ht ?_))
  refine wpAny_bind (wpAny_holding (wpAny_draw_tuple hlt items.size 0 _ _ ⟨_, Heap.get?_push_size _ rfl, rfl, rfl⟩ (ht.push _) (by omega) fun h₁ hit₁ hs₁ => ?_))
  have hall : List.take items.size (List.drop 0 items.toList) = items.toList := by
    rw [List.drop_zero]
    exact List.take_of_length_le (by simp)
  rw [hall, if_neg (by simp)]
  have ht₁ : h₁.IsTuple t items := (ht.push _).extBut hs₁.extBut hlt
  have hot₁ : HotAt A x1 h₁ := GX.HotAt.keeps hot fun o e => hs₁.extBut x1 o hx1 (Heap.get?_push_of_some _ e)
  refine wpAny_bind (wpAny_holding (tuple_end_hot hot₁ hit₁ ht₁ (by simp) fun h₂ he₂ => ?_))
  simp only [Option.isSome_none, Bool.false_eq_true, if_false]
  exact wpAny_pure (hQ h₂ fun b o hb e => he₂ b o hb (hs₁.extBut b o hb (Heap.get?_push_of_some _ e)))
theorem assign_Tuple_hot {env : Env} {elts : List Expr} {x0} {pos : Pos} {t x1 : Addr} {items : Array Value} {Q : Unit → Shared → Prop} (hot : HotAt A x1 s.heap) (ht : s.heap.IsTuple t items)
    (hn : (assignEach elts env).length = items.size) (hstar : (assignEach elts env).findIdx? (·.1) = none)
    (h : ∀ h', Heap.ExtBut s.heap.objs.size s.heap h' → wpAny (model prog w) A (assignInOrder ((assignEach elts env).map (·.2)) items.toList) Q E { s with heap := h' }) :
    wpAny (model prog w) A (assign (.Tuple elts x0 pos) env (.ref t)) Q E s := by
  rw [arm_assign_Tuple]
  refine wpAny_bind (wpAny_standAt ?_)
  unfold unpack
  rw [hn, hstar]
  exact wpAny_bind (wpAny_holding (unpackItems_hot hot ht h))
end
end GX
/-! part GxJ -/
set_option Elab.async false
set_option linter.all false
set_option maxRecDepth 100000
set_option maxHeartbeats 4000000
/-! a list comprehension while an exception is handled; a tuple as a target there -/
namespace GX
open PySem PySem.Spec PyProof.Rows L2 HotX L2H
/-- the block's context, what was pinned still pinned -/
abbrev blkP (X : Cx) (s : Shared) (H : Hp) (scope : Scope) (ce : Env) (fp : List Addr) : Cx := { X.blk s H scope ce fp with pn := X.pn }
section
variable {X : Cx} {s0 s : Shared} {H0 H : Hp} {scope : Scope} {ce : Env} {fp : List Addr} {σ : L2.St} {pins : List (Addr × Obj)}
theorem blkP_in (I : Inv (X.blk s0 H0 scope ce fp) [] σ H s) (hp : ∀ p ∈ X.pn, s.heap.get? p.1 = some p.2 ∧ H p.1 = none ∧ p.1 ≠ ce.locals ∧ p.1 ∉ (X.blk s0 H0 scope ce fp).fs ∧ ∀ v, p.2.data ≠ .cell v) : Inv (blkP X s0 H0 scope ce fp) [] σ H s :=
  ⟨⟨I.ok.mod, I.ok.kind, I.ok.glob, I.ok.blt, I.ok.above, I.ok.inj, I.ok.has, I.ok.cab, I.ok.hd, I.ok.frames, I.ok.stk, I.ok.exf, I.ok.bs, I.ok.bsz, I.ok.noex, I.ok.exfs, I.ok.funs, I.ok.frf⟩, I.os, I.bare, I.base, I.loc, I.cell, I.free, I.freeC,
    fun p hm => hp p (by simpa using hm), I.hok, I.len⟩
theorem pin_stack {σ : L2.St} {p : Addr × Obj} (I : Inv X pins σ H s) (hp : p ∈ X.pn) : p.1 ∉ frs X.stack := fun hm => by
  have P1 := I.pin p (List.mem_append_left _ hp)
  exact (List.mem_cons.mp (I.stkSub p.1 hm)).elim P1.2.2.1 P1.2.2.2.1
end
/-- an iterable's turns: the end asks for the exception that is handled -/
structure TurnZ (P : Program) (w : World) (K : PySem.W.Frag) (tg : Expr) (J : It) (fp : List Addr) (it : Addr) (tn : Nat → Heap → Prop) : Prop where
  mem : it ∈ fp
  obj : ∀ i h, tn i h → ∀ b ∈ fp, ∃ o, h.get? b = some o ∧ ∀ v, o.data ≠ .cell v
  keep : ∀ i h h', tn i h → (∀ b ∈ fp, ∀ o, h.get? b = some o → h'.get? b = some o) → tn i h'
  item : ∀ (X : Cx), X.prog = P → X.w = w → X.K = K → ∀ (i : Nat) (pins : List (Addr × Obj)) (s : Shared) (σ : L2.St) (H : Hp) (E : Value → Shared → Prop), Inv X pins σ H s → (∀ b ∈ fp, FpOk X pins H b) → tn i s.heap → J.go i H →
    wpAny (model P w) X.A (pyNext (.ref it)) (fun r s1 => ∃ u, r = some u ∧
      wpAny (model P w) X.A (letOwnedTupleGo tg (.ref it) u) (fun _ s2 => ∃ x H', Inv X pins σ H' s2 ∧ RelV x u ∧ J.yld i H x H' ∧ tn (i + 1) s2.heap ∧ ∀ b ∈ fp, H' b = none) E s1) E s
  done : ∀ (X : Cx), X.prog = P → X.w = w → X.K = K → HotC X → ∀ (i : Nat) (pins : List (Addr × Obj)) (s : Shared) (σ : L2.St) (H : Hp) (E : Value → Shared → Prop), Inv X pins σ H s → (∀ b ∈ fp, FpOk X pins H b) → tn i s.heap → J.stop i H →
    wpAny (model P w) X.A (pyNext (.ref it)) (fun r s1 => r = none ∧ Inv X pins σ H s1) E s
  self : ∀ (A : Around) (i : Nat) (s : Shared) (Q : Value → Shared → Prop) (E : Value → Shared → Prop), tn i s.heap → Q (.ref it) s → wpAny (model P w) A (pyIter (.ref it)) Q E s
theorem turnZ_list {P : Program} {w : World} {K : PySem.W.Frag} {tg : Expr} (a it : Addr) : TurnZ P w K tg (Itl K a) [it] it (fun i h => h.IsListIter it a i) where
  mem := by simp
  obj := fun i h st b hb => by
    have e : b = it := by simpa using hb
    subst e
    obtain ⟨o, e, c, d⟩ := st
    exact ⟨o, e, fun v z => by rw [d] at z; cases z⟩
  keep := fun i h h' st k => st.at fun o e => k it (by simp) o e
  item := by
    intro X hP hw hK i pins s σ H E I hf st hg
    subst hP hw hK
    obtain ⟨xs, x, hq, hx⟩ := hg
    obtain ⟨its, rv, p, hz⟩ := I.list hq
    obtain ⟨u, hu, ru⟩ := rv.get hx
    obtain ⟨f0, f1, f2, f3, f4, f5⟩ := hf it (by simp)
    refine wpAny_pyNext_list_item st p.isList (x := u) (by simpa using hu) fun h' st' sb => ?_
    have I1 : Inv X pins σ H { s with heap := h' } := I.turned (t' := s.toks) (fun b o hb e => (sb.2 b hb).trans e) f0 f1 f3 f4 f5
    obtain ⟨o, e, c, d⟩ := id st'
    exact ⟨u, rfl, go_of (s := { s with heap := h' }) e c d (by decide) ⟨x, H, I1, ru, ⟨rfl, fun ys hy => by rw [I.list_inj hy hq]; exact hx⟩, st', fun b hb => (hf b hb).1⟩⟩
  done := by
    intro X hP hw hK hc i pins s σ H E I hf st hg
    subst hP hw hK
    obtain ⟨xs, hq, hx⟩ := hg
    obtain ⟨its, rv, p, hz⟩ := I.list hq
    obtain ⟨f0, f1, f2, f3, f4, f5⟩ := hf it (by simp)
    obtain ⟨x1, hot⟩ := hc.at I
    have hl := rv.length
    exact list_end_hot hot st p.isList (by simp; omega) fun h' eb => ⟨rfl, I.turned (t' := s.toks) (fun b o hb e => eb b o hb e) f0 f1 f3 f4 f5⟩
  self := fun _ _ _ _ _ st h => wpAny_pyIter_listiter st h
def PIEZ (X : Cx) (pins : List (Addr × Obj)) (σ : L2.St) (tg : Expr) (R : It → Hp → Prop) (itv : Value) (s2 : Shared) : Prop :=
  ∃ (it : Addr) (fp : List Addr) (tn : Nat → Heap → Prop) (J : It) (H' : Hp), itv = .ref it ∧ Inv X pins σ H' s2 ∧ TurnZ X.prog X.w X.K tg J fp it tn ∧ tn 0 s2.heap ∧ (∀ b ∈ fp, FpOk X pins H' b) ∧ R J H'
structure PIZ (X : Cx) (tg iter : Expr) (wi : TI) : Prop where
  run : ∀ (pins : List (Addr × Obj)) (s : Shared) (σ : L2.St) (H : Hp) (R : It → Hp → Prop), Inv X pins σ H s → wi σ H R →
    wpAny (model X.prog X.w) X.A (eval iter X.env) (fun v s1 => wpAny (model X.prog X.w) X.A (pyIter v) (PIEZ X pins σ tg R) X.xe s1) X.xe s
section
variable {X : Cx} {tg : Expr}
theorem pi_listZ {l : Expr} {tl : TE} (hl : PE X l tl) : PIZ X tg l (iList X.K tl) := by
  refine ⟨fun pins s σ H R I h => ?_⟩
  refine thn (hl.run pins s σ H _ I h) fun v s1 ⟨x, H1, I1, r1, q1⟩ => ?_
  obtain ⟨a, rfl, ⟨xs, hq⟩, q⟩ := q1
  cases r1
  obtain ⟨its, rv, p, hz⟩ := I1.list hq
  refine wpAny_pyIter_list p.isList ?_
  have I2 : Inv X pins σ H1 { s1 with heap := s1.heap.push { cls := .type "list_iterator", data := .fields #[.ref a, .int 0 0] } } := I1.kept (t' := s1.toks) fun b o e => Heap.get?_push_of_some _ e
  refine ⟨s1.heap.objs.size, [s1.heap.objs.size], _, _, H1, rfl, I2, turnZ_list a s1.heap.objs.size, ⟨_, Heap.get?_push_size _ rfl, rfl, rfl⟩, fun b hb => ?_, q⟩
  have e : b = s1.heap.objs.size := by simpa using hb
  subst e
  exact I1.fpOk (Nat.le_refl _) (I1.hok.fresh (Nat.le_refl _))
/-- (a, b, ..) = a tuple, while an exception is handled -/
theorem pg_tupH {es : List Expr} {k : Nat} {t : TGs} {n : Nat} {pos : Pos} (hc : HotC X) (h : PGs X es t)
    (hn : (assignEach es X.env).length = n := by rfl) (hst : (assignEach es X.env).findIdx? (·.1) = none := by rfl) : PG X (.Tuple es k pos) (gTup X.K n t) := by
  refine ⟨fun pins s σ H v u Q I r hw => ?_⟩
  obtain ⟨a, xs, e1, hq, hl, hw⟩ := hw
  subst e1
  cases r
  obtain ⟨its, rv, ht, hz⟩ := I.tuple hq
  obtain ⟨x1, hot⟩ := hc.at I
  refine assign_Tuple_hot hot (show s.heap.IsTuple a its.toArray from ht) (by simp [hn, ← hl, rv.length]) hst fun h' hx => ?_
  have I1 : Inv X pins σ H { s with heap := h' } := I.kept (t' := s.toks) fun b o e => hx b o (Nat.ne_of_lt (Heap.lt_size e)) e
  exact h.run pins _ σ H xs _ Q I1 (by simpa using rv) hw
end
end GX
/-! part GxK -/
set_option Elab.async false
set_option linter.all false
set_option maxRecDepth 100000
set_option maxHeartbeats 4000000
/-! a list comprehension while an exception is handled -/
namespace GX
open PySem PySem.Spec PyProof.Rows L2 HotX L2H
section
variable {X : Cx}
theorem lc_hot {pins : List (Addr × Obj)} {s : Shared} {σ : L2.St} {H : Hp} {Q : VK} {elt tg iter : Expr} {ifs : List Expr} {scope : Scope} {own : List (Str × Nat)} {pos pos' : Pos} {wi : TI} {g : TG} {tt : TT} {te : TE} {use : Option (Value → Sem Unit)} {Qf : Value → Shared → Prop}
    (hc : HotC X) (hN : X.N.Nodup) (I : Inv X pins σ H s) (hi : PIZ X tg iter wi) (ok : BlkOk X.N X.env.scope scope own)
    (hg : ∀ (s : Shared) (H : Hp) (C : Addr) (cl : List (Str × Addr)) (fp : List Addr), PG (blkP X s H scope (compEnvC scope cl C X.env) fp) tg g) (ht : ∀ (s : Shared) (H : Hp) (C : Addr) (cl : List (Str × Addr)) (fp : List Addr), PTs (blkP X s H scope (compEnvC scope cl C X.env) fp) ifs tt)
    (he : ∀ (s : Shared) (H : Hp) (C : Addr) (cl : List (Str × Addr)) (fp : List Addr), PE (blkP X s H scope (compEnvC scope cl C X.env) fp) elt te) (hs : ∀ x, foldedSetIterable iter X.env x = pure x)
    (h : tLc wi g tt te (own.map (·.2)) σ H Q)
    (hRR : ∀ D C s' m H', Inv X pins σ H' s' → Q (.ref D) H' → s'.heap.Ns C m → FpOk X pins H' C → compPost (model X.prog X.w) X.A X.xe use Qf (.ref D) C (.ok .next) s') :
    wpAny (model X.prog X.w) X.A (comprehension (.ListComp elt [⟨tg, iter, ifs, 0⟩] scope pos) scope X.env pos' (newList []) false (eval iter X.env) use) Qf X.xe s := by
  have hfree : ∀ y ∈ scope.names, y.2 = .free → ∃ c, X.env.cells.lookup y.1 = some c := fun y hy e => (ok.free y hy e).elim (fun k => I.ok.has _ (.inl k)) fun k => I.ok.has _ (.inr k)
  refine wpAny_comprehension_free (use := use) rfl hs (closure_ok hfree) ok.kind (fun y hy e => by rw [ok.uniq y hy, e]) (thn (hi.run pins s σ H _ I h) fun xv s1 hx => thn hx fun itv s2 h2 => ?_)
  obtain ⟨it, fp, tn, J, H2, e, I2, T, st2, f2, q⟩ := h2
  subst e
  refine wpAny_newObj_type (newEnv_comp ?_) (by show 0 ≤ sizeLine; decide)
  generalize hD : s2.heap.objs.size = D
  have hDn : H2 D = none := I2.hok.fresh (Nat.le_of_eq hD)
  obtain ⟨W, ⟨m0, w0⟩, turn⟩ := q D hDn
  generalize hs3 : ({ s2 with heap := s2.heap.push { cls := .type "list", data := .seq ([] : List Value).toArray } } : Shared) = s3
  have I3 : Inv X pins σ (upd H2 D (.lst [])) s3 := by
    rw [← hs3]
    refine I2.laid (t' := s2.toks) (fun b o e => Heap.get?_push_of_some _ e) (Nat.le_of_eq hD) ⟨Nat.zero_le _, [], 0, .nil, ?_⟩
    rw [← hD]
    exact Heap.get?_push_size _ rfl
  have h3 : s3.heap = s2.heap.push { cls := .type "list", data := .seq ([] : List Value).toArray } := by rw [← hs3]
  have f3 : ∀ b ∈ fp, FpOk X pins (upd H2 D (.lst [])) b ∧ b < s3.heap.objs.size := fun b hb => by
    obtain ⟨o, eo, _⟩ := T.obj _ _ st2 b hb
    have hlt := Heap.lt_size eo
    refine ⟨⟨?_, (f2 b hb).2⟩, by rw [h3, Heap.size_push]; exact Nat.lt_succ_of_lt hlt⟩
    rw [upd_ne (by rw [← hD]; exact Nat.ne_of_lt hlt)]
    exact (f2 b hb).1
  have st3 : tn 0 s3.heap := T.keep _ _ _ st2 fun b _ o e => by rw [h3]; exact Heap.get?_push_of_some _ e
  have I4' := block_start I3 ok hN f3
  have pg := hg s3 (upd H2 D (.lst [])) s3.heap.objs.size (cellsFrom (s3.heap.objs.size + 1) scope.names (cloFrom X.env.cells scope.names [])) fp
  have pt := ht s3 (upd H2 D (.lst [])) s3.heap.objs.size (cellsFrom (s3.heap.objs.size + 1) scope.names (cloFrom X.env.cells scope.names [])) fp
  have pe := he s3 (upd H2 D (.lst [])) s3.heap.objs.size (cellsFrom (s3.heap.objs.size + 1) scope.names (cloFrom X.env.cells scope.names [])) fp
  show codeAny _ _ (.compStart (.ListComp elt [⟨tg, iter, ifs, 0⟩] scope pos) 0 (.ref it) (.ref D) (compEnvC scope (cellsFrom (s3.heap.objs.size + 1) scope.names (cloFrom X.env.cells scope.names [])) s3.heap.objs.size X.env)) (compPost (model X.prog X.w) X.A X.xe use Qf (.ref D) s3.heap.objs.size) { s3 with heap := pushCells (s3.heap.push { cls := .type "dict", data := .dict #[] }) scope.names }
  have nfp : ∀ b ∈ fp, (upd H2 D (.lst [])) b = none := fun b hb => (f3 b hb).1.1
  generalize hce : compEnvC scope (cellsFrom (s3.heap.objs.size + 1) scope.names (cloFrom X.env.cells scope.names [])) s3.heap.objs.size X.env = ce at I4' pg pt pe ⊢
  have cL : ce.locals = s3.heap.objs.size := by subst hce; rfl
  generalize hH3 : upd H2 D (.lst []) = H3 at I3 I4' pg pt pe w0 nfp f3
  generalize hs4 : ({ s3 with heap := pushCells (s3.heap.push { cls := .type "dict", data := .dict #[] }) scope.names } : Shared) = s4 at I4' ⊢
  have kp4 : ∀ b o, s3.heap.get? b = some o → s4.heap.get? b = some o := fun b o e => by rw [← hs4]; exact pushCells_keeps _ _ _ _ (Heap.get?_push_of_some _ e)
  have st4 : tn 0 s4.heap := T.keep _ _ _ st3 fun b _ o e => kp4 b o e
  have I4 : Inv (blkP X s3 H3 scope ce fp) [] (wipe σ (own.map (·.2))) H3 s4 := blkP_in I4' fun p hp => by
    obtain ⟨p1, p2, p3, p4, p5⟩ := I3.pin p (List.mem_append_left _ hp)
    exact ⟨kp4 _ _ p1, p2, by rw [cL]; exact Nat.ne_of_lt (Heap.lt_size p1), pin_stack I3 hp, p5⟩
  have hcB : HotC (blkP X s3 H3 scope ce fp) := by
    obtain ⟨p, h1, h2⟩ := hc
    exact ⟨p, h1, h2⟩
  have stat : ∀ {σ' : L2.St} {H' : Hp} {s' : Shared}, Inv (blkP X s3 H3 scope ce fp) [] σ' H' s' → (∀ b ∈ fp, H' b = none) → ∀ b ∈ fp, FpOk (blkP X s3 H3 scope ce fp) [] H' b := fun {σ' H' s'} I' hn b hb =>
    ⟨hn b hb, (I'.ok.exf b hb).1, I'.ok.exfs b hb, .inl hb, fun x c e => (I'.ok.exf b hb).2 x c e, fun p hp => (f3 b hb).1.2.2.2.2.2 p (List.mem_append_left _ (by simpa using hp))⟩
  have loop : codeAny (model X.prog X.w) X.A (.compLoop (.ListComp elt [⟨tg, iter, ifs, 0⟩] scope pos) 0 (.ref it) (.ref D) ce) (compPost (model X.prog X.w) X.A X.xe use Qf (.ref D) s3.heap.objs.size) s4 := by
    refine compLoop_any (fun n s' => ∃ i H', Inv (blkP X s3 H3 scope ce fp) [] (wipe σ (own.map (·.2))) H' s' ∧ tn i s'.heap ∧ (∀ b ∈ fp, H' b = none) ∧ W i n H') ?_ m0 ⟨0, H3, I4, st4, nfp, w0⟩
    rintro n s5 ⟨i, H5, I5, st5, n5, w5⟩
    rcases turn i n H5 w5 with ⟨stop, qq⟩ | ⟨go, Nx, hNx, step⟩
    · refine thnF (T.done (blkP X s3 H3 scope ce fp) rfl rfl rfl hcB i [] s5 _ H5 (fun _ _ => False) I5 (stat I5 n5) st5 stop) fun r s6 ⟨hr, I6⟩ => ?_
      subst hr
      have I7 : Inv X pins σ H5 s6 := I3.call' (ch := fp) I6.os I6.base I6.hok I6.bare fun b hb => ⟨(f3 b hb).1.2.2.2.1, (f3 b hb).1.2.1, (f3 b hb).1.2.2.2.2.1, (f3 b hb).1.2.2.2.2.2⟩
      have nC : H5 s3.heap.objs.size = none := by rw [← cL]; exact I6.free
      obtain ⟨m, hn, _⟩ := I6.loc
      have hn : s6.heap.Ns ce.locals m := hn
      rw [cL] at hn
      exact hRR D s3.heap.objs.size s6 m H5 I7 qq hn (I3.fpOk (Nat.le_refl _) nC)
    · refine thnF (T.item (blkP X s3 H3 scope ce fp) rfl rfl rfl i [] s5 _ H5 (fun _ _ => False) I5 (stat I5 n5) st5 go) fun r s6 ⟨u, hr, h6⟩ => ?_
      subst hr
      refine thnF h6 fun _ s7 ⟨x, H7, I7, r7, y7, st7, n7⟩ => ?_
      have I7' := I7.pinned (stat I7 n7) (T.obj _ _ st7)
      refine thnF (pg.run _ s7 _ H7 x u _ I7' r7 (step x H7 y7)) fun _ s8 ⟨σ8, H8, I8, hw8, q8⟩ => ?_
      refine thnF (pt.run _ s8 σ8 H8 _ I8 q8) fun b s9 ⟨H9, I9, q9⟩ => ?_
      have fin : ∀ {s' : Shared} {H' : Hp}, Inv (blkP X s3 H3 scope ce fp) ([] ++ pinsAt fp s7.heap) σ8 H' s' → Nx H' → ∃ m, m < n ∧ ∃ i H', Inv (blkP X s3 H3 scope ce fp) [] (wipe σ (own.map (·.2))) H' s' ∧ tn i s'.heap ∧ (∀ b ∈ fp, H' b = none) ∧ W i m H' := fun {s' H'} I' nx => by
        obtain ⟨m', hm, w'⟩ := hNx H' nx
        have pin' : ∀ b ∈ fp, ∀ o, s7.heap.get? b = some o → s'.heap.get? b = some o ∧ H' b = none := fun b hb o e =>
          let z := I'.pin (b, o) (List.mem_append_right _ (List.mem_append_right _ (mem_pinsAt hb e)))
          ⟨z.1, z.2.1⟩
        refine ⟨m', hm, i + 1, H', (I'.unpinned (pins := [])).weak (by rw [← hw8, wipe_length]) (fun j v e => ?_), T.keep _ _ _ st7 fun b hb o e => (pin' b hb o e).1, fun b hb => ?_, w'⟩
        · rw [← hw8] at e
          exact (wipe_some e).1
        · obtain ⟨o, e, _⟩ := T.obj _ _ st7 b hb
          exact (pin' b hb o e).2
      cases b with
      | false =>
        simp only [Bool.false_eq_true, if_false] at q9 ⊢
        exact fin I9 q9
      | true =>
        simp only [if_true] at q9 ⊢
        refine thnF (pe.run _ s9 σ8 H9 _ I9 q9) fun z s10 ⟨yv, H10, I10, r10, acc, hD10, hz10, nx⟩ => ?_
        exact app_ok (X := blkP X s3 H3 scope ce fp) I10 hD10 hz10 r10 fun s11 I11 => fin I11 nx
  exact codeAny_compStart_list loop (T.self X.A 0 _ _ _ st4 loop)
theorem pe_lcH {elt tg iter : Expr} {ifs : List Expr} {scope : Scope} {own : List (Str × Nat)} {pos : Pos} {wi : TI} {g : TG} {tt : TT} {te : TE} (hc : HotC X) (hN : X.N.Nodup) (hi : PIZ X tg iter wi) (ok : BlkOk X.N X.env.scope scope own)
    (hg : ∀ (s : Shared) (H : Hp) (C : Addr) (cl : List (Str × Addr)) (fp : List Addr), PG (blkP X s H scope (compEnvC scope cl C X.env) fp) tg g) (ht : ∀ (s : Shared) (H : Hp) (C : Addr) (cl : List (Str × Addr)) (fp : List Addr), PTs (blkP X s H scope (compEnvC scope cl C X.env) fp) ifs tt)
    (he : ∀ (s : Shared) (H : Hp) (C : Addr) (cl : List (Str × Addr)) (fp : List Addr), PE (blkP X s H scope (compEnvC scope cl C X.env) fp) elt te) (hs : ∀ x, foldedSetIterable iter X.env x = pure x := by intro _; rfl) :
    PE X (.ListComp elt [⟨tg, iter, ifs, 0⟩] scope pos) (tLc wi g tt te (own.map (·.2))) := by
  refine ⟨fun pins s σ H Q I h => ?_⟩
  rw [eval_ListComp]
  refine lc_hot hc hN I hi ok hg ht he hs h fun D C s' m H' I' q hn f => ⟨m, hn, fun h'' sb => ?_⟩
  obtain ⟨f0, f1, f2, f3, f4, f5⟩ := f
  exact ⟨.ref D, H', I'.turned (t' := s'.toks) (fun b o hb e => (sb.2 b hb).trans e) f0 f1 f3 f4 f5, rfl, q⟩
end
end GX
/-! part GxL -/
set_option Elab.async false
set_option linter.all false
set_option maxRecDepth 100000
set_option maxHeartbeats 4000000
/-! defs that are called both ways: plainly, and while an exception is handled -/
namespace GX
open PySem PySem.Spec PyProof.Rows L2 L2H
abbrev Ho := Option (Addr × Obj)
/-- o: the exception that is handled -/
def HeatA (k : Nat) (A : Around) (o : Ho) : Prop := (o = none ∧ Room k A) ∨ ∃ p, o = some p ∧ Hot1 A p ∧ RoomH k A
def Heat (X : Cx) (k : Nat) (o : Ho) : Prop := (o = none ∧ X.calm = true ∧ X.pn = [] ∧ Room k X.A) ∨ ∃ p, o = some p ∧ Hot1 X.A p ∧ p ∈ X.pn ∧ RoomH k X.A
theorem Heat.mono {X : Cx} {j k : Nat} {o : Ho} (h : Heat X k o) (hj : j ≤ k) : Heat X j o := by
  rcases h with ⟨e, c, p, r⟩ | ⟨p, e, t, m, r⟩
  · exact .inl ⟨e, c, p, r.mono hj⟩
  · exact .inr ⟨p, e, t, m, r.mono hj⟩
theorem Heat.at {X : Cx} {k : Nat} {o : Ho} (h : Heat X k o) : HeatA k X.A o := by
  rcases h with ⟨e, c, p, r⟩ | ⟨p, e, t, m, r⟩
  · exact .inl ⟨e, r⟩
  · exact .inr ⟨p, e, t, r⟩
theorem Heat.units {X : Cx} {k : Nat} {o : Ho} (h : Heat X k o) : X.A.units + 64 < cLine := by
  rcases h with ⟨e, c, p, r⟩ | ⟨p, e, t, m, r⟩
  · have := r.un; omega
  · have := r.un; omega
abbrev SpG := Ho → Sp
structure FnG (P : Program) (w : World) (K : PySem.W.Frag) (mg : Str → Option Value) (base : Heap) (k : Nat) (f : Addr) (fd : FuncData) (ps : List Str) (sp : SpG) : Prop where
  len : ∀ o vs H Q E, sp o vs H Q E → vs.length = ps.length
  run : ∀ (A : Around) (outer : List Env) (s : Shared) (H : Hp) (args : Args) (us : List Value) (vs : List V) (Q : VK) (E : XK) (o : Ho), HeatA k A o → (∀ p, o = some p → PinOk outer H s p) → Env0 P w K mg base A outer s H →
    BindsTo s fd args (ps.zip us) → Vals vs us → sp o vs H Q E → codeAny (model P w) A (.call (.ref f) args) (CR (L2N.CX P w) outer P w H s Q E) s
def cxG (P : Program) (w : World) (K : PySem.W.Frag) (mg : Str → Option Value) (base : Heap) (N : List Str) (qual : Str) (scope : Scope) (f : Addr) (cd : Value) (A : Around) (outer : List Env) (s : Shared) (H : Hp) (E : XK) (o : Ho) : Cx :=
  { cxOf (L2N.CX P w) P w K mg base N qual scope f cd A outer s H E with calm := o.isNone, pn := o.toList }
theorem fn_ofG {P : Program} {w : World} {K : PySem.W.Frag} {mg : Str → Option Value} {base : Heap} {k : Nat} {f : Addr} {name qual : Str} {params : Arguments} {body : List Stmt} {scope : Scope} {dV kV doc pm cdv ct oc : Value} {an od : Option Addr}
    {osl : Array (Option Value)} {N ps : List Str} {sp : SpG} (lk : K.lookup f = some ⟨oc, od, .func (PySem.W.fnOf name qual params body scope dV kV doc pm an cdv ct), osl⟩) (hcd : PySem.W.codeIn K cdv qual = true) (S : FnScope N ps scope)
    (len : ∀ o vs H Q E, sp o vs H Q E → vs.length = ps.length)
    (hbody : ∀ (A : Around) (outer : List Env) (s : Shared) (H : Hp) (vs : List V) (Q : VK) (E : XK) (o : Ho), Heat (cxG P w K mg base N qual scope f cdv A outer s H E o) k o → sp o vs H Q E →
      ∃ t, PSs (cxG P w K mg base N qual scope f cdv A outer s H E o) body t ∧ t { nx := fun _ H' => Q .non H', rt := Q } (L2.start N vs) H) :
    FnG P w K mg base (k + 1) f (PySem.W.fnOf name qual params body scope dV kV doc pm an cdv ct) ps sp := by
  refine ⟨len, fun A outer s H args us vs Q E o hh hpin e0 hb r hsp => ?_⟩
  have hl := len _ _ _ _ _ hsp
  have KX : K.In s.heap := e0.mod.kin.keeps fun b o e => (e0.bs b o e).1
  have lim : s.heap.NoLimit := e0.mod.nolimit.keeps fun b o e => (e0.bs b o e).1
  have hkind : ∀ y ∈ ps.zip us, scope.names.lookup y.1 = some .local ∨ (scope.names.lookup y.1 = some .cell ∧ ((cellsFrom (s.heap.objs.size + 1) scope.names []).lookup y.1).isSome = true) := fun ⟨n, v⟩ hy =>
    (S.par n (List.of_mem_zip hy).1).elim (fun q => .inl q) fun q => .inr ⟨q, PySem.W.cellsFrom_some _ _ _ (.inl q)⟩
  have hdep : A.depth < recursionLimit := by
    rcases hh with ⟨_, r⟩ | ⟨p, _, _, r⟩
    · exact r.depth
    · exact r.depth
  refine codeAny_call_function hdep (KX _ _ lk) rfl S.co S.gen rfl (PySem.W.codeRec_of KX hcd) (hb _ _ _ _ ?_)
  refine wpAny_newFunctionEnv_cells S.kind hkind fun env he s1 x => ?_
  subst he
  refine ⟨lim.keeps x.toInCall.keep, codeAny_func ?_⟩
  have heat : Heat (cxG P w K mg base N qual scope f cdv A outer s H E o) k o := by
    rcases hh with ⟨e, r⟩ | ⟨p, e, t, r⟩
    · subst e
      exact .inl ⟨rfl, rfl, rfl, r.deeper _⟩
    · subst e
      exact .inr ⟨p, rfl, t, List.mem_singleton.mpr rfl, r.deeper _⟩
  have I : Inv (cxG P w K mg base N qual scope f cdv A outer s H E o) [] (L2.start N vs) H s1 := by
    rcases hh with ⟨e, rm⟩ | ⟨p, e, t, rm⟩
    · subst e
      exact inv_start (CX := L2N.CX P w) S rm.hd e0 hl r x
    · subst e
      exact inv_startH S (hpin p rfl) e0 hl r x
  obtain ⟨t, ht, hq⟩ := hbody A outer s H vs Q E o heat hsp
  refine wpAny_mono (ht.run [] s1 (L2.start N vs) H _ I hq) (fun fl s' hs => ?_) fun e s' hs => hs
  have fin : ∀ {σ' : L2.St} {H' : Hp} {v : V} {u : Value}, Inv (cxG P w K mg base N qual scope f cdv A outer s H E o) [] σ' H' s' → RelV v u → Q v H' → CE outer P w H s Q u s' := fun {σ' H' v u} J rv q => ⟨v, H', J.os, J.bare, J.base, J.hok, rv, q⟩
  cases fl with
  | ret u =>
    obtain ⟨v, σ', H', J, rv, q⟩ := hs
    exact fin J rv q
  | next =>
    obtain ⟨σ', H', J, q⟩ := hs
    exact fin (v := V.non) (u := Value.none) J rfl q
  | brk =>
    obtain ⟨_, _, _, q⟩ := hs
    exact False.elim q
  | cont =>
    obtain ⟨_, _, _, q⟩ := hs
    exact False.elim q
/-- by its name, all parameters given -/
structure CalG (P : Program) (w : World) (K : PySem.W.Frag) (mg : Str → Option Value) (base : Heap) (k : Nat) (x : Str) (n : Nat) (sp : SpG) : Prop where
  ex : ∃ (f : Addr) (fd : FuncData) (ps : List Str), mg x = some (.ref f) ∧ PySem.W.keepIn K (.ref f) = true ∧ Binds K fd ps [] ∧ ps.length = n ∧ FnG P w K mg base k f fd ps sp
section
variable {X : Cx} {k j n : Nat} {o : Ho} {x : Str} {sp : SpG} {W : WX} {p pos : Pos} {e : Expr} {es : List Expr} {t : TA}
/-- f(e, ..), the promise told of what is handled -/
def tG (sp : SpG) (o : Ho) (W : WX) (t : TA) : TE := fun σ H Q => t σ H fun vs H1 => sp o vs H1 Q (WE W σ)
theorem pn_g (c : CalG X.prog X.w X.K X.mg X.base k x n sp) (hh : Heat X j o) (hj : k ≤ j) (tk : L2N.Takes X W) (hg : Gl X x) (ha : PA X (e :: es) t)
    (hdb : (x == ("__debug__" : Str)) = false := by decide) (he : starEach (e :: es) X.env = (false, eval e X.env) :: starEach es X.env := by rfl) (hpl : (backTo pos (starEach es X.env)).any (·.1) = false := by rfl) :
    PE X (.Call (.Name x p) (e :: es) [] pos) (tG sp o W t) := by
  obtain ⟨f, fd, ps, h1, h2, h3, h4, F⟩ := c.ex
  refine ⟨fun pins s σ H Q I h => ?_⟩
  refine wpAny_Call_Name_kw (ld_glob I hg h1 ?_ hdb)
  refine PySem.W.callWith_K (h₀ := X.base) I.ok.mod.kin h2 (thn (ha.run pos pins s σ H _ I h) fun us s1 ⟨vs, H1, I1, r, q⟩ => ⟨I1.kIn, ?_⟩) he hpl
  have hl : us.length = ps.length := by rw [← r.length]; exact F.len _ _ _ _ _ q
  have b := h3 s1 us I1.kIn (by rw [List.append_nil]; exact hl)
  rw [List.append_nil] at b
  have hpin : ∀ p, o = some p → PinOk X.stack H1 s1 p := fun p hp => by
    rcases hh with ⟨e0, _⟩ | ⟨p', e0, _, hm, _⟩
    · rw [e0] at hp
      cases hp
    · rw [e0] at hp
      cases hp
      have P1 := I1.pin p (List.mem_append_left _ hm)
      exact ⟨P1.1, P1.2.1, pin_stack I1 hm, P1.2.2.2.2⟩
  refine wpAny_call (codeAny_mono (F.run X.A X.stack s1 H1 ⟨us, []⟩ us vs Q (WE W σ) o (hh.mono hj).at hpin I1.env0 b r q) fun r s' hq => ?_)
  cases r with
  | error e => exact L2N.passAt tk σ pins H1 s1 e s' I1 hq
  | ok fl =>
    cases fl with
    | ret u => exact I1.after hq
    | next => exact False.elim hq
    | brk => exact False.elim hq
    | cont => exact False.elim hq
/-- for i in range(..) -/
theorem ps_forR {a : Expr} {ta : TA} {tg : Expr} {body : List Stmt} {g : TG} {tb : TS} {p2 p3 : Pos} (hp : PassesOwn (model X.prog X.w) X.A X.env X.xe) (hh : Heat X j o) (hg : Gl X "range") (hm : X.mg "range" = none) (ha : PA X [a] ta) (hgt : PG X tg g) (hb : PSs X body tb)
    (hs : starEach [a] X.env = [(false, eval a X.env)] := by rfl) : PS X (.For tg (.Call (.Name "range" p2) [a] [] p3) body [] pos) (tFor (iRng1 ta) g tb) := by
  rcases hh with ⟨_, c, _, _⟩ | ⟨q, _, t, m, _⟩
  · exact ps_for hp c (pi_range1 hg hm ha hs) hgt hb
  · exact ps_forH hp ⟨q, t, m⟩ (pi_range1H hg hm ha hs) hgt hb
theorem pg_tupG {es : List Expr} {kk m : Nat} {t : TGs} (hh : Heat X j o) (h : PGs X es t) (hn : (assignEach es X.env).length = m := by rfl) (hst : (assignEach es X.env).findIdx? (·.1) = none := by rfl) : PG X (.Tuple es kk pos) (gTup X.K m t) := by
  rcases hh with ⟨_, c, _, _⟩ | ⟨q, _, t', m', _⟩
  · exact pg_tup c h hn hst
  · exact pg_tupH ⟨q, t', m'⟩ h hn hst
/-- [elt for .. in a list if ..] -/
theorem pe_lcG {elt tg iter : Expr} {ifs : List Expr} {scope : Scope} {own : List (Str × Nat)} {tl : TE} {g : TG} {tt : TT} {te : TE} (hh : Heat X j o) (hN : X.N.Nodup) (hi : PE X iter tl) (ok : BlkOk X.N X.env.scope scope own)
    (hg : ∀ (s : Shared) (H : Hp) (C : Addr) (cl : List (Str × Addr)) (fp : List Addr), PG (blkP X s H scope (compEnvC scope cl C X.env) fp) tg g) (ht : ∀ (s : Shared) (H : Hp) (C : Addr) (cl : List (Str × Addr)) (fp : List Addr), PTs (blkP X s H scope (compEnvC scope cl C X.env) fp) ifs tt)
    (he : ∀ (s : Shared) (H : Hp) (C : Addr) (cl : List (Str × Addr)) (fp : List Addr), PE (blkP X s H scope (compEnvC scope cl C X.env) fp) elt te) (hs : ∀ x, foldedSetIterable iter X.env x = pure x := by intro _; rfl) :
    PE X (.ListComp elt [⟨tg, iter, ifs, 0⟩] scope pos) (tLc (iList X.K tl) g tt te (own.map (·.2))) := by
  rcases hh with ⟨_, c, hpn, _⟩ | ⟨q, _, t, m, _⟩
  · have e : ∀ (s : Shared) (H : Hp) (ce : Env) (fp : List Addr), X.blk s H scope ce fp = blkP X s H scope ce fp := fun s H ce fp => by
      show ({ X.blk s H scope ce fp with pn := [] } : Cx) = { X.blk s H scope ce fp with pn := X.pn }
      rw [hpn]
    exact pe_lc c hN (pi_list hi) ok (fun s H C cl fp => by rw [e]; exact hg s H C cl fp) (fun s H C cl fp => by rw [e]; exact ht s H C cl fp) (fun s H C cl fp => by rw [e]; exact he s H C cl fp) hs
  · exact pe_lcH ⟨q, t, m⟩ hN (pi_listZ hi) ok hg ht he hs
theorem Heat.blk {s : Shared} {H : Hp} {scope : Scope} {ce : Env} {fp : List Addr} (h : Heat X j o) : Heat (blkP X s H scope ce fp) j o := by
  rcases h with ⟨e, c, p, r⟩ | ⟨p, e, t, m, r⟩
  · exact .inl ⟨e, c, p, r⟩
  · exact .inr ⟨p, e, t, m, r⟩
end
end GX
/-! part GxM -/
set_option Elab.async false
set_option linter.all false
set_option maxRecDepth 100000
set_option maxHeartbeats 4000000
/-! an exception with fields, held as a value or being handled: isinstance(e, c), e.f -/
namespace GX
open PySem PySem.Spec PyProof.Rows L2 L2H
/-- an own exception object of the class cls at a, its own dict at d -/
def ExV (cls : Value) (d a : Addr) : HO := .ext fun h => ∃ (oe : Obj) (vs : Array Value), h.get? a = some oe ∧ oe.cls = cls ∧ oe.dict = some d ∧ oe.data = .fields vs
theorem exV_ok {P : Program} {w : World} {H : Hp} {h : Heap} {a d : Addr} {cls : Value} {oe : Obj} {vs : Array Value} (e : h.get? a = some oe) (c : oe.cls = cls) (hd : oe.dict = some d) (dt : oe.data = .fields vs) : ObjOk P w H h a (ExV cls d a) :=
  ⟨⟨oe, vs, e, c, hd, dt⟩, ⟨oe, e⟩, fun _ _ ⟨o, v, q, r⟩ k => ⟨o, v, k o q, r⟩⟩
/-- the exception at a, of the class at D, with its dict at d and these fields: held as a value, or the one that is handled -/
structure ExIn (o : Ho) (H : Hp) (a D d : Addr) (fs : List (Str × V)) : Prop where
  at_ : (∃ oe, o = some (a, oe) ∧ L2N.Zn (.ref D) (some d) oe) ∨ H a = some (ExV (.ref D) d a)
  fs : H d = some (.xd fs)
theorem ExIn.same {o : Ho} {H H' : Hp} {a D d : Addr} {fs : List (Str × V)} (e : ExIn o H a D d fs) (s : Same H H') : ExIn o H' a D d fs := ⟨e.at_.imp id (s _ _), s _ _ e.fs⟩
section
variable {X : Cx} {j : Nat} {o : Ho} {pins : List (Addr × Obj)} {σ : L2.St} {H : Hp} {s : Shared} {a D d : Addr} {fs : List (Str × V)}
theorem exin_inst (hh : Heat X j o) (e : ExIn o H a D d fs) (I : Inv X pins σ H s) : ∃ oe od, PySem.W.InstAt s.heap a oe D (some od) ∧ ∃ mA : Str → Option Value, (∀ name, PySem.W.lookIn name od = some (mA name)) ∧ ∀ f, RelO (fs.lookup f) (mA f) := by
  have hx : ObjOk X.prog X.w H s.heap d (.xd fs) := I.hok d _ e.fs
  obtain ⟨mA, hns, hr⟩ := hx
  obtain ⟨od, ho, hl⟩ := lookIn_ns hns
  rcases e.at_ with ⟨oe, rfl, hz⟩ | hv
  · rcases hh with ⟨z, _⟩ | ⟨q, z, hot, hm, _⟩
    · cases z
    · cases z
      obtain ⟨hget, _⟩ := I.pin _ (List.mem_append_left _ hm)
      obtain ⟨vs, hv, _⟩ := hot.2
      exact ⟨oe, od, ⟨hget, hz.1, by unfold PySem.W.notCls; rw [hv] <;> rfl, by rw [hz.2.1]; exact ho⟩, mA, hl, hr⟩
  · obtain ⟨⟨oe, vs, hget, hc, hd, hv⟩, _, _⟩ := (show ObjOk X.prog X.w H s.heap a (ExV (.ref D) d a) from I.hok a _ hv)
    exact ⟨oe, od, ⟨hget, hc, by unfold PySem.W.notCls; rw [hv] <;> rfl, by rw [hd]; exact ho⟩, mA, hl, hr⟩
/-- isinstance(e, c) -/
def rIsG (K : PySem.W.Frag) (o : Ho) : List V → Hp → VK → Prop := fun xs H Q => ∃ (a D d : Addr) (fs : List (Str × V)) (c : V) (u : Value) (b : Bool), xs = [.ref a, c] ∧ ExK K D ∧ ExIn o H a D d fs ∧ ClsV c u ∧ PySem.W.kitOne K (.ref D) u = some b ∧ Q (.bl b) H
theorem call_isG (hh : Heat X j o) : CallR X (.builtin "isinstance") (rIsG X.K o) := by
  intro pins s σ H xs us Q I r h
  obtain ⟨a, D, d, fs, c, u, b, rfl, T, ei, k, e, q⟩ := h
  obtain ⟨oe, od, J, _⟩ := exin_inst hh ei I
  obtain ⟨u1, u2, rfl, r1, r2⟩ := vals2 r
  have e2 := k.eq r2
  subst e2
  cases (show u1 = Value.ref a from r1)
  exact PySem.W.kia_one (PySem.W.kitx_exc T.cl T.ga T.gg T.ex T.ha T.hn T.ht T.hm) I.kIn J e (fun z => nomatch z) fun tk => ⟨.bl b, H, I.tok tk, rfl, q⟩
/-- e.f -/
def tXg (K : PySem.W.Frag) (o : Ho) (f : Str) (te : TE) : TE := fun σ H Q => te σ H fun x H1 => ∃ (a D d : Addr) (fs : List (Str × V)) (v : V), x = .ref a ∧ ExK K D ∧ PySem.W.findIn K (.ref D) f = some none ∧ ExIn o H1 a D d fs ∧ fs.lookup f = some v ∧ Q v H1
theorem pe_xG {e : Expr} {te : TE} {pos : Pos} {n : Str} (hh : Heat X j o) (he : PE X e te) (hb : attributeBase e n X.env (eval e X.env) = eval e X.env := by rfl) : PE X (.Attribute e n pos) (tXg X.K o n te) := by
  refine ⟨fun pins s σ H Q I h => ?_⟩
  refine attr_of hb (thn (he.run pins s σ H _ I h) fun u s1 hq => ?_)
  obtain ⟨x, H1, I1, rx, a, D, d, fs, v, ex, T, hno, ei, l, q⟩ := hq
  subst ex
  obtain rfl : u = Value.ref a := rx
  obtain ⟨oe, od, J, mA, hl, hr⟩ := exin_inst hh ei I1
  obtain ⟨u, hu, ru⟩ := RelO.some_of (v := v) (o := mA n) (by rw [← l]; exact hr n)
  exact HandSPX.exc_get I1.kIn J T.ga T.gg T.ex (PySem.W.findObj_own T.hd hno rfl (by rw [hl, hu])) (handed_of ru) ⟨v, H1, I1.tok _, ru, q⟩
end
end GX
/-! part GxN -/
set_option Elab.async false
set_option linter.all false
set_option maxRecDepth 100000
set_option maxHeartbeats 4000000
/-! an own exception made and held as a value -/
namespace GX
open PySem PySem.Spec PyProof.Rows L2 L2H
/-- C(..): a new exception at a, its fields in its own dict at d -/
def exW (C : Addr) (fs : List (Str × V)) (H : Hp) (Q : VK) : Prop := ∀ a d, H a = none → H d = none → a ≠ d → Q (.ref a) (upd (upd H d (.xd fs)) a (ExV (.ref C) d a))
/-- the state behind the making, read -/
theorem exv_inv {X : Cx} {pins : List (Addr × Obj)} {σ : L2.St} {H : Hp} {hp h' : Heap} {g : Array GenState} {dr : Drawn} {tk tk' t1 : Nat} {os : OsState} {e d C : Addr} {fs : List (Str × V)} {mA : Str → Option Value}
    (I : Inv X pins σ H ⟨hp, g, dr, tk, os⟩) (keep : ∀ b o, hp.get? b = some o → h'.get? b = some o) (new : hp.objs.size ≤ e) (hoe : h'.get? e = some (PySem.W.excObj C t1 (some d) .none)) (dbig : hp.objs.size ≤ d) (dne : d ≠ e)
    (ns : h'.Ns1 d mA) (hr : ∀ f, RelO (fs.lookup f) (mA f)) :
    H e = none ∧ H d = none ∧ Inv X pins σ (upd (upd H d (.xd fs)) e (ExV (.ref C) d e)) ⟨h', g, dr, tk', os⟩ := by
  obtain ⟨G', g1, g2⟩ := restrict h' fun b => decide (b ≠ e)
  have gk : ∀ b, b ≠ e → G'.get? b = h'.get? b := fun b hb => g1 b (decide_eq_true hb)
  have ge : G'.get? e = none := g2 e (by simp)
  have old : ∀ b o, hp.get? b = some o → G'.get? b = some o := fun b o q => (gk b (Nat.ne_of_lt (Nat.lt_of_lt_of_le (Heap.lt_size q) new))).trans (keep b o q)
  have ob : ObjOk X.prog X.w (upd H d (.xd fs)) G' d (.xd fs) := ⟨_, ns.at (fun o q => (gk d dne).trans q), hr⟩
  have J : Inv X pins σ (upd H d (.xd fs)) ⟨G', g, dr, tk', os⟩ := I.laid (t' := tk') old dbig ob
  have up : ∀ b o, G'.get? b = some o → h'.get? b = some o := fun b o q => by
    by_cases hb : b = e
    · rw [hb, ge] at q
      cases q
    · exact (gk b hb).symm.trans q
  have he : H e = none := I.hok.fresh new
  have hd : H d = none := I.hok.fresh dbig
  have he2 : (upd H d (.xd fs)) e = none := by rw [upd_ne (Ne.symm dne)]; exact he
  exact ⟨he, hd, J.laidN up ge he2 (exV_ok hoe rfl rfl rfl)⟩
section
variable {X : Cx} {C fI : Addr} {f x : Str} {B newId initId : String} {bmB : List Value}
theorem pe_exI {a : Expr} {ta : TA} {p pos : Pos} {k : Nat} (FB : ExcBaseFacts B newId initId bmB) (KF : PySem.W.KxsFacts B initId) (SF : StoreFacts B bmB "object.__setattr__" "object") (T : Exs X.prog X.K X.mg B newId initId bmB C fI f) (R : ExR X.K X.mg x C) (hr : Room k X.A) (ha : PA X [a] ta) (hg : Gl X x)
    (hdb : (x == ("__debug__" : Str)) = false := by decide) (he : starEach (a :: []) X.env = (false, eval a X.env) :: starEach [] X.env := by rfl) (hpl : (backTo pos (starEach [] X.env)).any (·.1) = false := by rfl) :
    PE X (.Call (.Name x p) [a] [] pos) (fun σ H Q => ta σ H fun vs H1 => ∃ v, vs = [v] ∧ exW C [(f, v)] H1 Q) := by
  refine ⟨fun pins s σ H Q I h => ?_⟩
  refine wpAny_Call_Name_kw (ld_glob I hg R.gC ?_ hdb)
  refine PySem.W.callWith_K (h₀ := X.base) I.ok.mod.kin R.kC (thn (ha.run pos pins s σ H _ I h) fun us s1 hh => ?_) he hpl
  obtain ⟨vs, H1, I1, r1, v, ev, q1⟩ := hh
  subst ev
  refine ⟨I1.kIn, ?_⟩
  cases r1 with
  | cons rv rn =>
    rename_i v' us'
    cases rn
    show wpAny _ _ (call (.ref C) [v']) _ _ _
    have hlim := I1.nolimit
    obtain ⟨mb, hb, hbb⟩ := I1.ok.mod.blt
    have hbs : mb "super" = some (.type "super") := (hbb "super" (by decide)).trans (by decide +kernel)
    have hg' := I1.ok.mod.glob.keeps I1.bk
    have hb' := hb.keeps I1.bk
    have kin := I1.kIn
    obtain ⟨hp, g, dr, tk, os⟩ := s1
    refine wpAny_call (ex_made FB KF SF T kin hlim hg' hb' hbs (by have := hr.dp; omega) fun h' tk' e d M => ?_)
    obtain ⟨t1, hoe⟩ := M.obj
    obtain ⟨n1, n2, J⟩ := exv_inv (tk' := tk') I1 M.keep M.new hoe M.dbig M.dne M.ns (fun f' => relO_one rv f')
    exact ⟨.ref e, _, J, rfl, q1 e d n1 n2 (Ne.symm M.dne)⟩
end
end GX
/-! part GxO -/
set_option Elab.async false
set_option linter.all false
set_option maxRecDepth 100000
set_option maxHeartbeats 4000000
/-! an own exception class with its own __init__, called with keywords -/
namespace PySem.HandSPX
open PySem PySem.Calls PyProof.Rows
section
variable {M : Model} {A : Around} {E : Value → Shared → Prop} {h : Heap} {g : Array GenState} {d : Drawn} {t : Nat} {os : OsState}
variable {nm q : Str} {C N : Addr} {bs bm bmB : List Value} {hdct : Bool} {sn : List Str} {sub : List Value} {ab : Bool} {col : Option Bool} {dd : Option Addr} {k0 k1 k2 k3 k5 : Option Value} {B newId initId : String}
theorem gx_check_new (F : ExcBaseFacts B newId initId bmB) (hT : ∀ X : String, bm.contains (.type X) = bmB.contains (.type X)) {rest : List Value} {kw : List (Str × Value)} {Q : Unit → Shared → Prop}
    (hC : h.get? C = some (excClassObj nm q C N bs bm hdct sn sub ab col dd k0 k1 k2 k3 k5 newId)) (hq : Q () ⟨h, g, d, t, os⟩) : wpAny M A (checkBuiltinCall newId ⟨.ref C :: rest, kw⟩) Q E ⟨h, g, d, t, os⟩ := by
  have hcont : (Value.ref C :: bm).contains (.type B) = true := by rw [List.contains_cons, hT, F.hasB, Bool.or_true]
  have hstar := F.noStar
  simp only [checkBuiltinCall, F.newKind, F.newSplit, F.newRow]
  repeat (first | refine wpAny_loadPart_at hC ?_ | (refine wpAny_isSubtype_exc hC ?_; rw [hcont]) | refine wpAny_staticBase_exc hC ?_ | refine wpAny_madeBy_exc hC ?_ | simp only [bne_self_eq_false, Bool.false_eq_true, if_false] | wp_step)
  exact hq
end
section
variable {prog : Program} {w : World} {A : Around} {E : Value → Shared → Prop} {R : Result → Shared → Prop} {h : Heap} {g : Array GenState} {d : Drawn} {t : Nat} {os : OsState}
variable {nm q : Str} {C N : Addr} {bs bm bmB : List Value} {hdct : Bool} {sn : List Str} {sub : List Value} {ab : Bool} {col : Option Bool} {dd : Option Addr} {k0 k1 k2 k3 k5 : Option Value} {B newId initId : String}
theorem gx_new (F : ExcBaseFacts B newId initId bmB) (hT : ∀ X : String, bm.contains (.type X) = bmB.contains (.type X)) {rest : List Value} {kw : List (Str × Value)}
    (hC : h.get? C = some (excClassObj nm q C N bs bm hdct sn sub ab col dd k0 k1 k2 k3 k5 newId))
    (hq : R (.ok (.ret (.ref (h.objs.size + 1)))) ⟨(h.push { cls := .type "tuple", data := .seq rest.toArray }).push
      { cls := .ref C, data := .fields #[.ref h.objs.size, .none, .none, .none, .bool false, .none] }, g, d, t, os⟩) (hrest : rest.length ≤ sizeLine) :
    codeAny (model prog w) A (.builtin newId ⟨.ref C :: rest, kw⟩) R ⟨h, g, d, t, os⟩ := by
  have hends := F.ends
  have hcB : (Value.ref C :: bm).contains (.type B) = true := by rw [List.contains_cons, hT, F.hasB, Bool.or_true]
  have hcA : (Value.ref C :: bm).contains (.type "AttributeError") = false := by rw [List.contains_cons, hT, F.noAttr]; rfl
  have hcN : (Value.ref C :: bm).contains (.type "NameError") = false := by rw [List.contains_cons, hT, F.noName]; rfl
  refine codeAny_builtinAt F.entry ?_
  unfold Builtin.«BaseException.__new__»
  refine wpAt_bind ?_
  show wpAt _ _ _ (stack >>= _) _ _ _
  refine wpAt_bind (wpAt_stack fun p below => wpAt_of_wpAny ?_)
  wp_walk
  refine wpAt_of_wpAny ?_
  rw [F.owner]
  repeat (first | with_reducible refine wpAny_madeHere_exc F.canon hC ?_ | with_reducible refine wpAny_loadPart_at hC ?_ | (with_reducible refine wpAny_isSubtype_exc hC ?_; first | rw [hcB] | rw [hcA] | rw [hcN]) | wp_step)
  show R _ _
  rw [Heap.size_push]
  exact hq
theorem gx_type_call (F : ExcBaseFacts B newId initId bmB) (hT : ∀ X : String, bm.contains (.type X) = bmB.contains (.type X)) {rest : List Value} {kw : List (Str × Value)} {fI : Addr} {Q : Fin → Shared → Prop}
    (hC : h.get? C = some (excClassObj nm q C N bs bm hdct sn sub ab col dd k0 k1 k2 k3 k5 newId))
    (hi : W.Looks (model prog w) h (typeLookup (.ref C) "__init__") (some (.ref fI))) (hb : ∀ self, W.Looks (model prog w) h (bindSpecial (.ref fI) self) (.ref fI, [self])) (hrest : rest.length ≤ sizeLine)
    (hq : codeAny (model prog w) A (.call (.ref fI) ⟨.ref (h.objs.size + 1) :: rest, kw⟩)
      (fun r s' => match r with | .ok (.ret v) => v = .none ∧ Q (.done (.ret (.ref (h.objs.size + 1)))) s' | .ok _ => False | .error e => E e s')
      ⟨(h.push (W.kdv_tup rest)).push (excO C h.objs.size), g, d, t, os⟩) :
    wpAny (model prog w) A (Builtin.«type.__call__» ⟨.ref C :: rest, kw⟩) Q E ⟨h, g, d, t, os⟩ := by
  repeat (first | with_reducible refine wpAny_loadPart_at hC ?_ | with_reducible refine wpAny_madeBy_exc hC ?_ | wp_step)
  refine codeAny_call_builtin_code (Code.quiet_builtin _ F.quiet) (gx_check_new F hT hC ?_)
  refine gx_new F hT hC ?_ hrest
  show wpAny _ _ _ _ _ _
  have k : ∀ b o, h.get? b = some o → ((h.push (W.kdv_tup rest)).push (excO C h.objs.size)).get? b = some o := fun b o e => Heap.get?_push_of_some _ (Heap.get?_push_of_some _ e)
  have hC₁ := k _ _ hC
  have hget : ((h.push (W.kdv_tup rest)).push (excO C h.objs.size)).get? (h.objs.size + 1) = some (excO C h.objs.size) := by heap_get
  have hcC : (Value.ref C :: bm).contains (.ref C) = true := by simp
  have i1 := hi.keeps k
  have b1 := (hb (.ref (h.objs.size + 1))).keeps k
  unfold isInstance
  repeat (first | with_reducible refine wpAny_loadPart_at hget ?_ | (with_reducible refine wpAny_isSubtype_exc hC₁ ?_; rw [hcC]) | wp_step)
  show wpAny _ _ (typeLookup (.ref C) _) _ _ _
  refine i1.at ?_
  refine wpAny_holding (wpAny_bind (b1.at ?_))
  refine wpAny_bind (wpAny_call (codeAny_mono hq fun r s' z => ?_))
  rcases r with e | (v | _ | _ | _) <;> first | exact z | exact z.elim | skip
  obtain ⟨rfl, z⟩ := z
  first
    | exact wpAny_pure (wpAny_pure z)
    | (wp_walk; exact z)
theorem gx_call_kw (F : ExcBaseFacts B newId initId bmB) (hT : ∀ X : String, bm.contains (.type X) = bmB.contains (.type X)) {rest : List Value} {kw : List (Str × Value)} {fI : Addr}
    (hC : h.get? C = some (excClassObj nm q C N bs bm hdct sn sub ab col dd k0 k1 k2 k3 k5 newId))
    (hi : W.Looks (model prog w) h (typeLookup (.ref C) "__init__") (some (.ref fI))) (hb : ∀ self, W.Looks (model prog w) h (bindSpecial (.ref fI) self) (.ref fI, [self])) (hrest : rest.length ≤ sizeLine)
    (hq : codeAny (model prog w) (A.under (.builtin "type.__call__" ⟨.ref C :: rest, kw⟩)) (.call (.ref fI) ⟨.ref (h.objs.size + 1) :: rest, kw⟩) (W.InitBack (h.objs.size + 1) R)
      ⟨(h.push (W.kdv_tup rest)).push (excO C h.objs.size), g, d, t, os⟩) :
    codeAny (model prog w) A (.call (.ref C) ⟨rest, kw⟩) R ⟨h, g, d, t, os⟩ := by
  have f1 := tc_lookup
  have f2 := tc_bind (.ref C)
  have hTy : (⟨h, g, d, t, os⟩ : Shared).TypeIs (.ref C) "type" := ⟨_, hC, rfl⟩
  refine codeAny_of_tree ?_
  show wpAny _ _ (callAny (.ref C) _) _ _ _
  repeat (any_goals (first | assumption | with_reducible refine wpAny_loadPart_at hC ?_ | wp_step))
  refine ⟨rfl, ?_⟩
  refine codeAny_call_builtin_at (Code.quiet_builtin _ (by decide +kernel)) entry_typeCall (wpAny_check_type_call_sub hC (gx_type_call F hT hC hi hb hrest ?_))
  refine codeAny_mono hq fun r s' z => ?_
  rcases r with e | (v | _ | _ | _) <;> exact z
end
end PySem.HandSPX
/-! part GxP -/
set_option Elab.async false
set_option linter.all false
set_option maxRecDepth 100000
set_option maxHeartbeats 4000000
/-! an own exception class whose __init__ says super().__init__('..') and sets one or two fields; called by place or by name -/
namespace GX
open PySem PySem.W PySem.Calls PyProof.Rows Builtin Builtin.ObjectAttr
section
variable {prog : Program} {w : World} {M : Model} {A : Around} {E : Value → Shared → Prop} {R : Result → Shared → Prop} {h : Heap} {g : Array GenState} {d : Drawn} {t : Nat} {os : OsState}
/-- a further field stored on an exception of our own -/
theorem set_old {B : String} {bmB : List Value} {K : Frag} {name : Str} {v : Value} {x C t0 dx : Addr} {m0 : Str → Option Value} {nl : List Str} {Q : Unit → Shared → Prop} (SF : StoreFacts B bmB "object.__setattr__" "object") (X : K.In h) (hx : h.get? x = some (excObj C t0 (some dx) .none))
    (hn : h.Ns1 dx m0) (hw : Within m0 nl) (hz : nl.length ≤ 1000)
    (hp : excOver K C bmB = true) (sa : findIn K (.ref C) "__setattr__" = some (some (.builtin "object.__setattr__"))) (ha : findIn K (.ref C) name = some none) (hh : hasDictIn K C = true)
    (hq : ∀ h' tk', (∀ b o, b ≠ dx → h.get? b = some o → h'.get? b = some o) → h'.Ns1 dx (fun y => if y = name then some v else m0 y) → Q () ⟨h', g, d, tk', os⟩) :
    wpAny (model prog w) A (setAttr (.ref x) name v) Q E ⟨h, g, d, t, os⟩ := by
  obtain ⟨oD, esD, epD, hoD, hdD, _⟩ := hn.count hw
  have I : InstAt h x (excObj C t0 (some dx) .none) C (some oD) := ⟨hx, rfl, rfl, hoD⟩
  refine set_plain X I sa ?_
  refine osa_openX (r := none) SF X I hp (by unfold takerIn; rw [ha]; rfl) fun b => ?_
  obtain ⟨cd, hc, hd⟩ := any_some hh
  have hcls : Looks (model prog w) h (classData C) cd := looks_clsIn X hc
  obtain ⟨nm, bs, mro, ns, qn, hdct, sn, sb, ab, col, del⟩ := cd
  dsimp only at hd
  subst hd
  show wpAny _ _ (storeInOwnDict (.ref x) (.ref C) (.str name _) name v b) _ _ _
  unfold storeInOwnDict ownDictForStores
  repeat (first | with_reducible refine OEX.store_in_old hn hw hz ?_ | with_reducible refine wpAny_loadPart_at hx ?_ | with_reducible refine hcls.at ?_ | wp_step)
  intro h' tk' hn' hs
  exact hq h' tk' (fun b o hb ho => (hs.2 b hb).trans ho) hn'
end
abbrev Asg := Str × Pos × Pos × Pos × Pos
def asg1 (a : Asg) : Stmt := .Assign [.Attribute (.Name "self" a.2.1) a.1 a.2.2.1] (.Name a.1 a.2.2.2.1) a.2.2.2.2
/-- the body: super().__init__(m), then self.f = f for each field -/
def exJ (p0 p1 p2 p3 p4 p5 : Pos) (j : Nat) (m : Str) (as : List Asg) : List Stmt :=
  .Expr (.Call (.Attribute (.Call (.Name "super" p0) [] [] p1) "__init__" p2) [.Constant (.str m) j p3] [] p4) p5 :: as.map asg1
def putM (m : Str → Option Value) : List (Str × Value) → Str → Option Value
  | [] => m
  | p :: r => putM (fun y => if y = p.1 then some p.2 else m y) r
structure ExJI (prog : Program) (K : Frag) (C fI : Addr) (fl : List Str) : Prop where
  at_ : findIn K (.ref C) "__init__" = some (some (.ref fI))
  fn : isFn K (.ref fI) = true
  lk : ∃ (oc : Value) (od : Option Addr) (qual : Str) (params : Arguments) (scope : Scope) (doc pm : Value) (an : Option Addr) (cda : Addr) (ct : Value) (osl : Array (Option Value)) (cc : Addr) (ar : Arg)
      (ccl cl : Value) (cdd cld : Option Addr) (vs : Array Value) (ccs csl : Array (Option Value)) (file : Str) (tf : Tok) (p0 p1 p2 p3 p4 p5 : Pos) (j : Nat) (m : Str) (a1 : Asg) (ar2 : List Asg),
    (a1 :: ar2).map (·.1) = fl ∧
    K.lookup fI = some ⟨oc, od, .func (ksFn "__init__" qual params (exJ p0 p1 p2 p3 p4 p5 j m (a1 :: ar2)) scope .none .none doc pm an (.ref cda) ct cc), osl⟩ ∧ codeIn K (.ref cda) qual = true ∧
    K.lookup cda = some ⟨ccl, cdd, .fields vs, ccs⟩ ∧ vs[2]? = some (.str file tf) ∧ ((prog.main.file : Str) == file) = true ∧ K.lookup cc = some ⟨cl, cld, .cell (some (.ref C)), csl⟩ ∧
    (params.posonlyargs ++ params.args).head? = some ar ∧ ar.arg = "self" ∧
    (∀ us : List Value, us.length = 1 + fl.length → bindArgs (ksFn "__init__" qual params (exJ p0 p1 p2 p3 p4 p5 j m (a1 :: ar2)) scope .none .none doc pm an (.ref cda) ct cc) ⟨us, []⟩ = pure ((("self" : Str) :: fl).zip us)) ∧
    (∀ (a : Value) (us : List Value), us.length = fl.length → bindArgs (ksFn "__init__" qual params (exJ p0 p1 p2 p3 p4 p5 j m (a1 :: ar2)) scope .none .none doc pm an (.ref cda) ct cc) ⟨[a], fl.reverse.zip us.reverse⟩ = pure ((("self" : Str) :: fl).zip (a :: us))) ∧
    (∀ x ∈ scope.names, x.2 ≠ .cell) ∧ scope.names.lookup ("self" : Str) = some .local ∧ (∀ f ∈ fl, scope.names.lookup f = some .local) ∧ scope.names.lookup ("super" : Str) = some .globalImplicit ∧ scope.names.lookup ("__class__" : Str) = some .free ∧
    scope.isCoroutine = false ∧ scope.isGenerator = false ∧ scope.kind = .function ∧
    ∃ pl : Sem Bool, ∀ env : Env, eval (.Call (.Attribute (.Call (.Name "super" p0) [] [] p1) "__init__" p2) [.Constant (.str m) j p3] [] p4) env = (do
      let ov ← attributeBase (.Call (.Name "super" p0) [] [] p1) "__init__" env (eval (.Call (.Name "super" p0) [] [] p1) env)
      standAt p2.atName
      let (f, first) ← holding [ov] (getMethod ov "__init__" pl)
      callWith p4 f first (backTo p4 (starEach [.Constant (.str m) j p3] env)) [])
structure ExJs (prog : Program) (K : Frag) (mg : Str → Option Value) (B newId initId : String) (bmB : List Value) (C fI : Addr) (fl : List Str) : Prop where
  q : excInitIn K C bmB newId = true
  ov : excOver K C bmB = true
  sa : findIn K (.ref C) "__setattr__" = some (some (.builtin "object.__setattr__"))
  no : ∀ f ∈ fl, findIn K (.ref C) f = some none
  hd : hasDictIn K C = true
  subB : subIn K (.ref C) (.type B) = some true
  sup : ks_superIn K C C "__init__" = some (some (.builtin initId))
  mro : mroIn K C (.ref C) = some true
  opq : nsIn K cStatics "thirdparty.any" = some none
  nsup : mg "super" = none
  top : (prog.main.scope.names.lookup ("super" : Str)).isSome = false
  nd : (("self" : Str) :: fl).Nodup
  len : fl.length ≤ 2
  fdb : ∀ f ∈ fl, (f == ("__debug__" : Str)) = false
  init : ExJI prog K C fI fl
section
variable {prog : Program} {w : World} {A : Around} {E : Value → Shared → Prop} {g : Array GenState} {d : Drawn} {os : OsState} {K : Frag} {mg : Str → Option Value} {B newId initId : String} {bmB : List Value} {C fI : Addr} {fl : List Str}
theorem setsJ {body : List Stmt} {q : Str} {scope : Scope} {f cda cc L x dx t1 : Addr} {ml : Str → Option Value} {Q : Flow → Shared → Prop} (SF : StoreFacts B bmB "object.__setattr__" "object") (T : ExJs prog K mg B newId initId bmB C fI fl)
    (hk : scope.kind = .function) (hsl : scope.names.lookup ("self" : Str) = some .local) (lself : ml "self" = some (.ref x)) (hLd : L ≠ dx) (hxd : x ≠ dx) (hnd : ∀ b o, K.lookup b = some o → b ≠ dx) :
    ∀ (as : List Asg) (vs : List Value) (h : Heap) (t : Nat) (m0 : Str → Option Value) (nl : List Str), K.In h → h.get? x = some (excObj C t1 (some dx) .none) → h.Ns L ml → h.Ns1 dx m0 → Within m0 nl → nl.length + as.length ≤ 1000 → as.length = vs.length →
      (∀ p ∈ as.zip vs, ml p.1.1 = some p.2 ∧ scope.names.lookup p.1.1 = some .local ∧ findIn K (.ref C) p.1.1 = some none ∧ (p.1.1 == ("__debug__" : Str)) = false) →
      (∀ h' tk, (∀ b o, b ≠ dx → h.get? b = some o → h'.get? b = some o) → h'.Ns1 dx (putM m0 ((as.map (·.1)).zip vs)) → Q .next ⟨h', g, d, tk, os⟩) →
      _root_.PySem.wpAt (model prog w) A (.func body (ksEnv q scope L f (.ref cda) cc)) (execs (as.map asg1) (ksEnv q scope L f (.ref cda) cc)) Q E ⟨h, g, d, t, os⟩
  | [], vs, h, t, m0, nl, X, hx, hl, hn, hw, hz, he, hp, hq => by
    cases vs with
    | nil => exact wpAt_of_wpAny (wpAny_execs_nil (hq h t (fun _ _ _ e => e) hn))
    | cons _ _ => cases he
  | a :: as, [], h, t, m0, nl, X, hx, hl, hn, hw, hz, he, hp, hq => by cases he
  | a :: as, v :: vs, h, t, m0, nl, X, hx, hl, hn, hw, hz, he, hp, hq => by
    obtain ⟨lf, hfl, hno, hdb⟩ := hp (a, v) List.mem_cons_self
    refine ks_wpAt_execs_cons (ks_wpAt_Assign_Attr (wpAt_of_wpAny (wpAny_Name (wpAny_loadName_local hk hfl hl lf (wpAny_Name (wpAny_loadName_local hk hsl hl lself ?_) (by decide))) hdb)))
    refine set_old SF X hx hn hw (by rw [List.length_cons] at hz; omega) T.ov T.sa hno T.hd fun h' tk' k hn' => ?_
    have hl' : h'.Ns L ml := by
      obtain ⟨o, es, ep, ho, r⟩ := hl
      exact ⟨o, es, ep, k _ _ hLd ho, r⟩
    refine setsJ SF T hk hsl lself hLd hxd hnd as vs h' tk' _ (a.1 :: nl) (fun b o e => k b o (hnd b o e) (X b o e)) (k _ _ hxd hx) hl' hn' (Within.cons a.1 v hw) (by rw [List.length_cons] at hz ⊢; omega) (by rw [List.length_cons, List.length_cons] at he; omega) (fun p hp' => hp p (List.mem_cons_of_mem _ hp')) fun h2 tk2 k2 hn2 => ?_
    exact hq h2 tk2 (fun b o hb e => k2 b o hb (k b o hb e)) hn2
end
end GX
/-! part GxQ -/
set_option Elab.async false
set_option linter.all false
set_option maxRecDepth 100000
set_option maxHeartbeats 4000000
namespace GX
open PySem PySem.W PySem.Calls PyProof.Rows Builtin Builtin.ObjectAttr
theorem lookup_nd : ∀ {l : List (Str × Value)}, (l.map (·.1)).Nodup → ∀ {k : Str} {v : Value}, (k, v) ∈ l → l.lookup k = some v
  | [], _, _, _, h => by cases h
  | (a, b) :: l, nd, k, v, h => by
    rw [List.map_cons, List.nodup_cons] at nd
    rcases List.mem_cons.mp h with e | h
    · cases e
      simp [List.lookup]
    · have ne : (k == a) = false := beq_eq_false_iff_ne.mpr fun e => nd.1 (by rw [← e]; exact List.mem_map_of_mem (f := (·.1)) h)
      simp only [List.lookup, ne]
      exact lookup_nd nd.2 h
theorem lookup_rev {l : List (Str × Value)} (nd : (l.map (·.1)).Nodup) {k : Str} {v : Value} (h : (k, v) ∈ l) : l.reverse.lookup k = some v :=
  lookup_nd (by rw [List.map_reverse]; exact (List.reverse_perm _).nodup_iff.mpr nd) (List.mem_reverse.mpr h)
theorem zip_fst : ∀ {fs : List Str} {vs : List Value}, vs.length = fs.length → (fs.zip vs).map (·.1) = fs
  | [], [], _ => rfl
  | f :: fs, v :: vs, h => by
    rw [List.zip_cons_cons, List.map_cons, zip_fst (by simpa using h)]
section
variable {prog : Program} {w : World} {A : Around} {E : Value → Shared → Prop} {R : Result → Shared → Prop} {h : Heap} {g : Array GenState} {d : Drawn} {t : Nat} {os : OsState}
variable {K : Frag} {mg : Str → Option Value} {B newId initId : String} {bmB : List Value} {C fI : Addr} {fl : List Str}
theorem ex_initJ (FB : ExcBaseFacts B newId initId bmB) (KF : KxsFacts B initId) (SF : StoreFacts B bmB "object.__setattr__" "object") (T : ExJs prog K mg B newId initId bmB C fI fl) {x t0 : Addr} {us : List Value} {args : Args} {mb : Str → Option Value}
    (X : K.In h) (hlim : h.NoLimit) (hg : h.Ns mainGlobals mg) (hb : h.Ns builtinsNs mb) (hbs : mb "super" = some (.type "super")) (hx : h.get? x = some (excObj C t0 none .none)) (hnx : K.lookup x = none)
    (hroom : A.depth < recursionLimit) (hlen : us.length = fl.length) (hargs : args = ⟨.ref x :: us, []⟩ ∨ args = ⟨[.ref x], fl.reverse.zip us.reverse⟩)
    (hq : ∀ h' tk dx t1, (∀ b o, b ≠ x → h.get? b = some o → h'.get? b = some o) → h.objs.size ≤ dx → dx ≠ x → h'.get? x = some (excObj C t1 (some dx) .none) → h'.Ns1 dx (putM (fun _ => none) (fl.zip us)) → R (.ok (.ret .none)) ⟨h', g, d, tk, os⟩) :
    codeAny (model prog w) A (.call (.ref fI) args) R ⟨h, g, d, t, os⟩ := by
  obtain ⟨oc, od, qual, params, scope, doc, pm, an, cda, ct, osl, cc, ar, ccl, cl, cdd, cld, vs, ccs, csl, file, tf, p0, p1, p2, p3, p4, p5, j, m, a1, ar2, hfl, hf, hcd, hcda, hvs, hfile, hcc, hhd, har, hbind, hbindK, hcell, hsl, hfls, hsup, hcls, hco, hgen, hk, pl, he⟩ := T.init.lk
  obtain ⟨sk, sn, sg, sco, smore⟩ := scope
  dsimp only at hcell hsl hfls hsup hcls hco hgen hk
  subst hk hgen hco
  have nf : ∀ {b : Addr} {o : Obj}, K.lookup b = some o → b ≠ x := fun {b o} e z => by
    rw [z, hnx] at e
    cases e
  have hbd : bindArgs (ksFn "__init__" qual params (exJ p0 p1 p2 p3 p4 p5 j m (a1 :: ar2)) ⟨.function, sn, false, false, smore⟩ .none .none doc pm an (.ref cda) ct cc) args = pure ((("self" : Str) :: fl).zip (.ref x :: us)) := by
    rcases hargs with rfl | rfl
    · exact hbind (.ref x :: us) (by rw [List.length_cons]; omega)
    · exact hbindK (.ref x) us hlen
  have keys : ((("self" : Str) :: fl).zip (Value.ref x :: us)).map (·.1) = ("self" : Str) :: fl := zip_fst (by rw [List.length_cons, List.length_cons, hlen])
  refine ks_codeAny_call_defAt (fd := ksFn "__init__" qual params (exJ p0 p1 p2 p3 p4 p5 j m (a1 :: ar2)) ⟨.function, sn, false, false, smore⟩ .none .none doc pm an (.ref cda) ct cc) (binds := (("self" : Str) :: fl).zip (.ref x :: us)) hroom (X _ _ hf) rfl hlim (codeRec_of X hcd) rfl
    (BindsTo.of_eq hbd) hcell (fun y hy => ?_) (fun h₁ hns hk₁ => ?_) rfl rfl rfl
  · have hm : y.1 ∈ ("self" : Str) :: fl := by rw [← keys]; exact List.mem_map_of_mem (f := (·.1)) hy
    rcases List.mem_cons.mp hm with e | hm
    · rw [e]; exact hsl
    · exact hfls _ hm
  have nds : (((("self" : Str) :: fl).zip (Value.ref x :: us)).map (·.1)).Nodup := by rw [keys]; exact T.nd
  have lself : ((("self" : Str) :: fl).zip (Value.ref x :: us)).reverse.lookup ("self" : Str) = some (.ref x) := lookup_rev nds List.mem_cons_self
  have lf : ∀ p ∈ fl.zip us, ((("self" : Str) :: fl).zip (Value.ref x :: us)).reverse.lookup p.1 = some p.2 := fun p hp => lookup_rev nds (List.mem_cons_of_mem _ hp)
  have X₁ : K.In h₁ := X.keeps hk₁
  have hx₁ := hk₁ _ _ hx
  obtain ⟨cdD, hcD, _⟩ := any_some T.hd
  have hxL : h.objs.size ≠ x := Nat.ne_of_gt (Heap.lt_size hx)
  show _root_.PySem.wpAt _ _ _ (execs (.Expr _ p5 :: _) _) _ _ _
  refine ks_wpAt_execs_cons (ks_wpAt_Expr_any (ks_wpAt_MethodCall (pl := pl) (sup_node (s := ⟨h₁, g, d, _, os⟩) (L := h.objs.size) (D := C) X₁ hns (hg.keeps hk₁) (hb.keeps hk₁) T.nsup hbs (X₁ _ _ hf) rfl hhd (by rw [har]; exact lself) hx₁ rfl (fun c z => by cases z)
    (X₁ _ _ hcda) rfl hvs hfile (X₁ _ _ hcc) rfl hcD T.mro (by decide) hsup hcls (by rw [har]; exact hsl) rfl T.top (fun so h₂ k₂ hso => ?_)) (he _)))
  refine kxs_getMethod KF hso (looks_opaque (X₁.keeps k₂) T.opq) (l₀ := cdD.mro) ?_ rfl (X₁.keeps k₂) ?_ ?_ ?_ (by decide) ?_
  · exact fun A Q E s k q => wpAny_bind ((looks_clsIn (X₁.keeps k₂) hcD) A _ E s k (wpAny_pure q))
  · have z := T.sup
    unfold ks_superIn at z
    rw [hcD] at z
    exact z
  · exact InstAt.type (⟨k₂ _ _ hx₁, rfl, rfl, trivial⟩ : InstAt h₂ x (excObj C t0 none .none) C none) |>.andThen (looks_subIn (X₁.keeps k₂) T.subB)
  · intro z
    have hC : K.lookup C ≠ none := by
      unfold clsIn at hcD
      intro e
      rw [e] at hcD
      cases hcD
    rw [← z] at hC
    exact hC hnx
  have hx₂ := k₂ _ _ hx₁
  have X₂ := X₁.keeps k₂
  have kp : ∀ b o, h₂.get? b = some o → (h₂.push (kxs_mw initId x)).get? b = some o := fun b o e => Heap.get?_push_of_some _ e
  refine mw_callWith (i := initId) (x := x) ?_
  refine Calls.spliced_cons (Calls.Constant_str (pos := p3) (k := j) (Calls.spliced_nil ⟨Heap.get?_push_size _ rfl, ?_⟩))
  refine mw_call (dv := none) (t0 := t0) (X₂.keeps kp) FB T.q (Heap.get?_push_size _ rfl) (kp _ _ hx₂) (by rw [sizeLine_eq]; exact (by decide : 1 ≤ 16777216)) fun h₃ t1 k₃ hx₃ => ?_
  have X₃ : K.In h₃ := fun a o e => k₃ a o (nf e) (kp _ _ (X₂ a o e))
  have keepL : ∀ b o, b ≠ x → h₁.get? b = some o → h₃.get? b = some o := fun b o hb e => k₃ b o hb (kp _ _ (k₂ _ _ e))
  have hns₃ : h₃.Ns h.objs.size (fun y => ((("self" : Str) :: fl).zip (Value.ref x :: us)).reverse.lookup y) := by
    obtain ⟨o, es, ep, ho, r⟩ := hns
    exact ⟨o, es, ep, keepL _ _ hxL ho, r⟩
  obtain ⟨u1, ur, rfl⟩ : ∃ u1 ur, us = u1 :: ur := by
    cases us with
    | nil => rw [← hfl] at hlen; cases hlen
    | cons u ur => exact ⟨u, ur, rfl⟩
  have hz1 : (a1.1, u1) ∈ fl.zip (u1 :: ur) := by rw [← hfl]; exact List.mem_cons_self
  have m1 : a1.1 ∈ fl := by rw [← hfl]; exact List.mem_cons_self
  refine ks_wpAt_execs_cons (ks_wpAt_Assign_Attr (wpAt_of_wpAny (wpAny_Name (wpAny_loadName_local rfl (hfls _ m1) hns₃ (lf _ hz1) (wpAny_Name (wpAny_loadName_local rfl hsl hns₃ lself ?_) (by decide))) (T.fdb _ m1))))
  refine set_new SF X₃ hx₃ T.ov T.sa (T.no _ m1) T.hd fun h₄ tk₄ dx k₄ dbig dne hx₄ hn₄ => ?_
  have z1 : h.objs.size < h₁.objs.size := hns.lt
  have z2 : h.objs.size < h₃.objs.size := hns₃.lt
  have X₄ : K.In h₄ := fun a o e => k₄ a o (nf e) (X₃ a o e)
  have hns₄ : h₄.Ns h.objs.size (fun y => ((("self" : Str) :: fl).zip (Value.ref x :: (u1 :: ur))).reverse.lookup y) := by
    obtain ⟨o, es, ep, ho, r⟩ := hns₃
    exact ⟨o, es, ep, k₄ _ _ hxL ho, r⟩
  have l2 := T.len
  refine setsJ SF T rfl hsl lself (Nat.ne_of_lt (Nat.lt_of_lt_of_le z2 dbig)) dne.symm (fun b o e z => ?_) ar2 ur h₄ tk₄ _ [a1.1] X₄ hx₄ hns₄ hn₄ (Within.cons a1.1 u1 Within.nil) ?_ ?_ (fun p hp => ?_) fun h₅ tk₅ k₅ hn₅ => ?_
  · have q : b < h₃.objs.size := Heap.lt_size (X₃ _ _ e)
    rw [z] at q
    exact absurd dbig (Nat.not_le_of_lt q)
  · rw [← hfl, List.length_map, List.length_cons] at l2
    rw [List.length_singleton]
    omega
  · rw [← hfl, List.length_map, List.length_cons, List.length_cons] at hlen
    omega
  · have hpm : (p.1.1, p.2) ∈ fl.zip (u1 :: ur) := by
      rw [← hfl, List.map_cons, List.zip_cons_cons]
      refine List.mem_cons_of_mem _ ?_
      rw [List.zip_map_left]
      exact List.mem_map.mpr ⟨p, hp, rfl⟩
    have m2 : p.1.1 ∈ fl := by
      have z := List.mem_map_of_mem (f := (·.1)) hpm
      rw [zip_fst hlen] at z
      exact z
    exact ⟨lf _ hpm, hfls _ m2, T.no _ m2, T.fdb _ m2⟩
  · refine hq h₅ tk₅ dx t1 (fun b o hb e => k₅ b o ?_ (k₄ b o hb (keepL b o hb (hk₁ b o e)))) ?_ dne (k₅ _ _ dne.symm hx₄) ?_
    · exact Nat.ne_of_lt (Nat.lt_of_lt_of_le (Nat.lt_trans (Heap.lt_size e) z2) dbig)
    · omega
    · rw [← hfl]
      exact hn₅
end
end GX
/-! part GxR -/
set_option Elab.async false
set_option linter.all false
set_option maxRecDepth 100000
set_option maxHeartbeats 4000000
namespace GX
open PySem PySem.Spec PyProof.Rows L2 L2H
theorem relO_putM : ∀ (fl : List Str) (vs : List V) (us : List Value) (fs : List (Str × V)) (m : Str → Option Value), Vals vs us → (∀ k, RelO (fs.lookup k) (m k)) → ∀ k, RelO (((fl.zip vs).reverse ++ fs).lookup k) (putM m (fl.zip us) k)
  | [], vs, us, fs, m, _, h, k => h k
  | f :: fl, [], us, fs, m, r, h, k => by
    cases r
    exact h k
  | f :: fl, v :: vs, us, fs, m, r, h, k => by
    cases r with
    | cons rv r =>
      rename_i u us
      rw [List.zip_cons_cons, List.zip_cons_cons, List.reverse_cons, List.append_assoc, List.singleton_append]
      exact relO_putM fl vs us ((f, v) :: fs) _ r (fun g => relO_put rv h g) k
/-- a made exception, its fields -/
structure ExMJ (h h' : Heap) (e C d : Addr) (fl : List Str) (us : List Value) : Prop where
  keep : ∀ b o, h.get? b = some o → h'.get? b = some o
  new : h.objs.size ≤ e
  obj : ∃ t, h'.get? e = some (PySem.W.excObj C t (some d) .none)
  dbig : h.objs.size ≤ d
  dne : d ≠ e
  ns : h'.Ns1 d (putM (fun _ => none) (fl.zip us))
section
variable {prog : Program} {w : World} {A : Around} {R : Result → Shared → Prop} {h : Heap} {g : Array GenState} {d : Drawn} {t : Nat} {os : OsState}
variable {K : PySem.W.Frag} {mg : Str → Option Value} {B newId initId : String} {bmB : List Value} {C fI : Addr} {fl : List Str}
theorem ex_madeJ (FB : ExcBaseFacts B newId initId bmB) (KF : PySem.W.KxsFacts B initId) (SF : StoreFacts B bmB "object.__setattr__" "object") (T : ExJs prog K mg B newId initId bmB C fI fl) {us rest : List Value} {kw : List (Str × Value)} {mb : Str → Option Value}
    (X : K.In h) (hlim : h.NoLimit) (hg : h.Ns mainGlobals mg) (hb : h.Ns builtinsNs mb) (hbs : mb "super" = some (.type "super")) (hroom : A.depth + 1 < recursionLimit) (hlen : us.length = fl.length)
    (hargs : (rest = us ∧ kw = []) ∨ (rest = [] ∧ kw = fl.reverse.zip us.reverse))
    (hq : ∀ h' tk e d0, ExMJ h h' e C d0 fl us → R (.ok (.ret (.ref e))) ⟨h', g, d, tk, os⟩) :
    codeAny (model prog w) A (.call (.ref C) ⟨rest, kw⟩) R ⟨h, g, d, t, os⟩ := by
  obtain ⟨nm, N', qn, bs, bm, hdct, sn, sub, ab, col, dd, k0, k1, k2, k3, k5, hC, hT⟩ := PySem.W.excInit_of X T.q
  obtain ⟨oI, hoI, hcI⟩ : ∃ oI, h.get? fI = some oI ∧ oI.cls = .type "function" := by
    obtain ⟨o, ho, hc⟩ := Option.map_eq_some_iff.mp (show (K.lookup fI).map (·.cls) = some (.type "function") from beq_iff_eq.mp T.init.fn)
    exact ⟨o, X _ _ ho, hc⟩
  have k : ∀ b o, h.get? b = some o → ((h.push (PySem.W.kdv_tup rest)).push (PySem.HandSPX.excO C h.objs.size)).get? b = some o := fun b o e => Heap.get?_push_of_some _ (Heap.get?_push_of_some _ e)
  have hget : ((h.push (PySem.W.kdv_tup rest)).push (PySem.HandSPX.excO C h.objs.size)).get? (h.objs.size + 1) = some (PySem.HandSPX.excO C h.objs.size) := by heap_get
  have hl2 := T.len
  refine PySem.HandSPX.gx_call_kw FB hT hC (PySem.W.looks_findIn X T.init.at_) (fun self => PySem.W.exc_bind hoI hcI self) ?_ ?_
  · rcases hargs with ⟨rfl, _⟩ | ⟨rfl, _⟩
    · exact Nat.le_trans (by omega : _ ≤ 2) (by rw [sizeLine_eq]; exact (by decide : 2 ≤ 16777216))
    · exact Nat.zero_le _
  refine ex_initJ FB KF SF T (us := us) (X.keeps k) (hlim.keeps k) (hg.keeps k) (hb.keeps k) hbs hget (fresh_not_in X (Nat.le_succ _)) ?_ hlen ?_ fun h' tk' dx t1 k' dbig dne hx hns => ?_
  · show A.depth + 1 < recursionLimit
    exact hroom
  · rcases hargs with ⟨rfl, rfl⟩ | ⟨rfl, rfl⟩
    · exact .inl rfl
    · exact .inr rfl
  · have old : ∀ b o, h.get? b = some o → h'.get? b = some o := fun b o e => k' b o (Nat.ne_of_lt (Nat.lt_succ_of_lt (Heap.lt_size e))) (k b o e)
    have z : h.objs.size ≤ dx := by
      rw [Heap.size_push, Heap.size_push] at dbig
      omega
    exact ⟨rfl, hq h' tk' (h.objs.size + 1) dx ⟨old, Nat.le_succ _, ⟨t1, hx⟩, z, dne, hns⟩⟩
end
/-- the fields of a made exception -/
def fsOf (fl : List Str) (vs : List V) : List (Str × V) := (fl.zip vs).reverse
def tExJ (C : Addr) (fl : List Str) (t : TA) : TE := fun σ H Q => t σ H fun vs H1 => vs.length = fl.length ∧ exW C (fsOf fl vs) H1 Q
def tExK (C : Addr) (fl : List Str) (t : TA) : TE := fun σ H Q => t σ H fun vs H1 => vs.length = fl.length ∧ exW C (fsOf fl vs.reverse) H1 Q
theorem vals_rev' {vs : List V} {us : List Value} (r : Vals vs us) : Vals vs.reverse us.reverse := by
  induction r with
  | nil => exact .nil
  | cons a r ih =>
    rw [List.reverse_cons, List.reverse_cons]
    exact ih.append (.cons a .nil)
section
variable {X : Cx} {C fI : Addr} {fl : List Str} {x : Str} {B newId initId : String} {bmB : List Value} {pins : List (Addr × Obj)} {σ : L2.St} {H : Hp} {s : Shared} {k : Nat}
theorem run_exJ {us rest : List Value} {kw : List (Str × Value)} {vs : List V} {Q : VK} (FB : ExcBaseFacts B newId initId bmB) (KF : PySem.W.KxsFacts B initId) (SF : StoreFacts B bmB "object.__setattr__" "object") (T : ExJs X.prog X.K X.mg B newId initId bmB C fI fl) (hr : Room k X.A) (I : Inv X pins σ H s) (r : Vals vs us)
    (hlen : vs.length = fl.length) (hargs : (rest = us ∧ kw = []) ∨ (rest = [] ∧ kw = fl.reverse.zip us.reverse)) (q : exW C (fsOf fl vs) H Q) : wpAny (model X.prog X.w) X.A (call (.ref C) rest kw) (EP X pins σ Q) X.xe s := by
  have hlim := I.nolimit
  obtain ⟨mb, hb, hbb⟩ := I.ok.mod.blt
  have hbs : mb "super" = some (.type "super") := (hbb "super" (by decide)).trans (by decide +kernel)
  have hg' := I.ok.mod.glob.keeps I.bk
  have hb' := hb.keeps I.bk
  have kin := I.kIn
  obtain ⟨hp, g, dr, tk, os⟩ := s
  refine wpAny_call (ex_madeJ FB KF SF T (us := us) kin hlim hg' hb' hbs (by have := hr.dp; omega) (by rw [← r.length]; exact hlen) hargs fun h' tk' e d M => ?_)
  obtain ⟨t1, hoe⟩ := M.obj
  have rr := relO_putM fl vs us [] (fun _ => none) r (fun _ => True.intro)
  simp only [List.append_nil] at rr
  obtain ⟨n1, n2, J⟩ := exv_inv (tk' := tk') (fs := fsOf fl vs) I M.keep M.new hoe M.dbig M.dne M.ns rr
  exact ⟨.ref e, _, J, rfl, q e d n1 n2 (Ne.symm M.dne)⟩
theorem pe_exJ {a : Expr} {es : List Expr} {ta : TA} {p pos : Pos} (FB : ExcBaseFacts B newId initId bmB) (KF : PySem.W.KxsFacts B initId) (SF : StoreFacts B bmB "object.__setattr__" "object") (T : ExJs X.prog X.K X.mg B newId initId bmB C fI fl) (R : ExR X.K X.mg x C) (hr : Room k X.A) (ha : PA X (a :: es) ta) (hg : Gl X x)
    (hdb : (x == ("__debug__" : Str)) = false := by decide) (he : starEach (a :: es) X.env = (false, eval a X.env) :: starEach es X.env := by rfl) (hpl : (backTo pos (starEach es X.env)).any (·.1) = false := by rfl) :
    PE X (.Call (.Name x p) (a :: es) [] pos) (tExJ C fl ta) := by
  refine ⟨fun pins s σ H Q I h => ?_⟩
  refine wpAny_Call_Name_kw (ld_glob I hg R.gC ?_ hdb)
  refine PySem.W.callWith_K (h₀ := X.base) I.ok.mod.kin R.kC (thn (ha.run pos pins s σ H _ I h) fun us s1 ⟨vs, H1, I1, r, hl, q⟩ => ⟨I1.kIn, ?_⟩) he hpl
  exact run_exJ FB KF SF T hr I1 r hl (.inl ⟨rfl, rfl⟩) q
theorem pe_exK {kws : List Keyword} {tk' : TA} {p pos : Pos} (FB : ExcBaseFacts B newId initId bmB) (KF : PySem.W.KxsFacts B initId) (SF : StoreFacts B bmB "object.__setattr__" "object") (T : ExJs X.prog X.K X.mg B newId initId bmB C fI fl) (R : ExR X.K X.mg x C) (hr : Room k X.A) (hg : Gl X x)
    (hkw : PK X kws tk') (hall : (backToKw pos (keywordEach kws X.env)).all (·.1.isSome) = true := by rfl) (hks : (backToKw pos (keywordEach kws X.env)).filterMap (·.1) = fl.reverse := by rfl)
    (hdb : (x == ("__debug__" : Str)) = false := by decide) (hpl : ((backTo pos (starEach [] X.env)).any (·.1) || (backToKw pos (keywordEach kws X.env)).any (·.1.isNone)) = false := by rfl) :
    PE X (.Call (.Name x p) [] kws pos) (tExK C fl tk') := by
  refine ⟨fun pins s σ H Q I h => ?_⟩
  refine wpAny_Call_Name_kw (ld_glob I hg R.gC ?_ hdb)
  refine PySem.W.callWith_KW0 (h₀ := X.base) I.ok.mod.kin R.kC hall (thn (hkw.run pos pins s σ H _ I h) fun ws s2 ⟨zs, H2, I2, rz, hl, q2⟩ => ⟨I2.kIn, ?_⟩) hpl
  rw [hks]
  refine run_exJ (us := ws.reverse) (vs := zs.reverse) FB KF SF T hr I2 (vals_rev' rz) (by rw [List.length_reverse]; exact hl) (.inr ⟨rfl, ?_⟩) q2
  rw [List.reverse_reverse]
/-- raise C(..) -/
def tMkJ (C : Addr) (fl : List Str) (ta : TA) (σ : L2.St) (H : Hp) (Q : Value → Option Addr → Hp → Prop) : Prop := ta σ H fun vs H1 => vs.length = fl.length ∧ ∀ d, H1 d = none → Q (.ref C) (some d) (upd H1 d (.xd (fsOf fl vs)))
theorem pmk_exJ {a : Expr} {es : List Expr} {ta : TA} {p pos : Pos} (FB : ExcBaseFacts B newId initId bmB) (KF : PySem.W.KxsFacts B initId) (SF : StoreFacts B bmB "object.__setattr__" "object") (T : ExJs X.prog X.K X.mg B newId initId bmB C fI fl) (R : ExR X.K X.mg x C) (hr : Room k X.A) (ha : PA X (a :: es) ta) (hg : Gl X x)
    (hdb : (x == ("__debug__" : Str)) = false := by decide) (he : starEach (a :: es) X.env = (false, eval a X.env) :: starEach es X.env := by rfl) (hpl : (backTo pos (starEach es X.env)).any (·.1) = false := by rfl) :
    L2N.PMk X (.Call (.Name x p) (a :: es) [] pos) (tMkJ C fl ta) := by
  intro pins s σ H Q I h
  refine wpAny_Call_Name_kw (ld_glob I hg R.gC ?_ hdb)
  refine PySem.W.callWith_K (h₀ := X.base) I.ok.mod.kin R.kC (thn (ha.run pos pins s σ H _ I h) fun us s1 hh => ?_) he hpl
  obtain ⟨vs, H1, I1, r, hl, q1⟩ := hh
  refine ⟨I1.kIn, ?_⟩
  show wpAny _ _ (call (.ref C) us) _ _ _
  have hlim := I1.nolimit
  obtain ⟨mb, hb, hbb⟩ := I1.ok.mod.blt
  have hbs : mb "super" = some (.type "super") := (hbb "super" (by decide)).trans (by decide +kernel)
  have hg' := I1.ok.mod.glob.keeps I1.bk
  have hb' := hb.keeps I1.bk
  have kin := I1.kIn
  obtain ⟨hp, g, dr, tk, os⟩ := s1
  refine wpAny_call (ex_madeJ FB KF SF T (us := us) kin hlim hg' hb' hbs (by have := hr.dp; omega) (by rw [← r.length]; exact hl) (.inl ⟨rfl, rfl⟩) fun h' tk' e d M => ?_)
  show L2N.MkP X pins σ Q (.ref e) ⟨h', g, dr, tk', os⟩
  obtain ⟨t1, hoe⟩ := M.obj
  obtain ⟨G', g1, g2⟩ := restrict h' fun b => decide (b ≠ e)
  have gk : ∀ b, b ≠ e → G'.get? b = h'.get? b := fun b hb => g1 b (decide_eq_true hb)
  have ge : G'.get? e = none := g2 e (by simp)
  have old : ∀ b o, hp.get? b = some o → G'.get? b = some o := fun b o q => (gk b (Nat.ne_of_lt (Nat.lt_of_lt_of_le (Heap.lt_size q) M.new))).trans (M.keep b o q)
  have rr := relO_putM fl vs us [] (fun _ => none) r (fun _ => True.intro)
  simp only [List.append_nil] at rr
  have ob : ObjOk X.prog X.w (upd H1 d (.xd (fsOf fl vs))) G' d (.xd (fsOf fl vs)) := ⟨_, M.ns.at (fun o q => (gk d M.dne).trans q), rr⟩
  have J : Inv X pins σ (upd H1 d (.xd (fsOf fl vs))) ⟨G', g, dr, tk', os⟩ := I1.laid (t' := tk') old M.dbig ob
  refine ⟨e, _, _, ⟨G', g, dr, tk', os⟩, _, .ref C, some d, rfl, J, fun b o q => ?_, ge, hoe, ⟨rfl, rfl, fun vs e => by cases e; rfl⟩, rfl, rfl, ?_, rfl, I1.bare, raises_own R.exC R.tyC, q1 d (I1.hok.fresh M.dbig)⟩
  · by_cases hb : b = e
    · have q' : G'.get? b = some o := q
      rw [hb, ge] at q'; cases q'
    · exact (gk b hb).symm.trans q
  · rw [upd_ne (Ne.symm M.dne)]
    exact I1.hok.fresh M.new
end
end GX
/-! part GxS -/
set_option Elab.async false
set_option linter.all false
set_option maxRecDepth 100000
set_option maxHeartbeats 4000000
/-! a lambda without parameters, handed on from def to def -/
namespace GX
open PySem PySem.Spec PyProof.Rows L2 LamX
theorem un_shrink {fs fs' : List Addr} {H H1 : Hp} {h h1 : Heap} (u : Un fs' [] H H1 h h1) (hf : ∀ b ∈ fs', b ∈ fs ∨ h.objs.size ≤ b) : Un fs [] H H1 h h1 :=
  ⟨fun b ob q n hb he => u.keep b ob q n (fun z => (hf b z).elim hb fun z2 => absurd (Heap.lt_size q) (Nat.not_lt.mpr z2)) he, fun _ _ q n _ he => u.any q n he, u.free, u.there, u.tups, u.frzs, u.tbls⟩
/-- from the making to a callee's entry, from there on -/
theorem reach_in {fs0 fs : List Addr} {H0 H H1 : Hp} {h0 h h1 : Heap} (u0 : Un fs0 [] H0 H h0 h) (hf : ∀ b ∈ fs, b ∈ fs0 ∨ h0.objs.size ≤ b) (u : Un fs [] H H1 h h1) : Un fs0 [] H0 H1 h0 h1 :=
  un_shrink (fs' := fs0 ++ fs) ((u0.mono (fun b hb => List.mem_append_left _ hb) fun _ z => z).trans (u.mono (fun b hb => List.mem_append_right _ hb) fun _ z => z)) fun b hb => (List.mem_append.mp hb).elim .inl (hf b)
/-- f() at any later state: f was made when outer0, s0, H0 were so -/
structure Act (P : Program) (w : World) (K : PySem.W.Frag) (mg : Str → Option Value) (base : Heap) (k : Nat) (outer0 : List Env) (s0 : Shared) (H0 : Hp) (f : Addr) (tl : XK → Hp → VK → Prop) : Prop where
  fn : PySem.W.FnAt f s0.heap
  no : H0 f = none
  nf : f ∉ frs outer0
  run : ∀ (A : Around) (outer : List Env) (s : Shared) (H : Hp) (Q : VK) (E : XK), Room k A → Env0 P w K mg base A outer s H → Un (frs outer0) [] H0 H s0.heap s.heap → tl E H Q →
    codeAny (model P w) A (.call (.ref f) ⟨[], []⟩) (CR (L2N.CX P w) outer P w H s Q E) s
theorem Act.imp {P : Program} {w : World} {K : PySem.W.Frag} {mg : Str → Option Value} {base : Heap} {k : Nat} {outer0 : List Env} {s0 : Shared} {H0 : Hp} {f : Addr} {tl tl' : XK → Hp → VK → Prop} (a : Act P w K mg base k outer0 s0 H0 f tl) (h : ∀ E H Q, tl' E H Q → tl E H Q) : Act P w K mg base k outer0 s0 H0 f tl' :=
  ⟨a.fn, a.no, a.nf, fun A outer s H Q E hr e u t => a.run A outer s H Q E hr e u (h _ _ _ t)⟩
/-- a(), a the lambda that was got -/
theorem pe_act3 {Z : Cx} {outer0 : List Env} {s0 : Shared} {H0 : Hp} {f : Addr} {tl : XK → Hp → VK → Prop} {k i : Nat} {a : Str} {W : WX} {p1 p2 : Pos} (Ac : Act Z.prog Z.w Z.K Z.mg Z.base k outer0 s0 H0 f tl)
    (reach : ∀ pins σ H s, Inv Z pins σ H s → Un (frs outer0) [] H0 H s0.heap s.heap) (tk : L2N.Takes Z W) (hr : Room k Z.A) (hN : Z.N[i]? = some a) (hv : Vis Z.env.scope a)
    (hd : (a == ("__debug__" : Str)) = false := by decide) (hcd : (a == ("__classdict__" : Str)) = false := by decide) :
    PE Z (.Call (.Name a p1) [] [] p2) (fun σ H Q => σ[i]? = some (some (.ref f)) ∧ tl (WE W σ) H Q) := by
  refine ⟨fun pins s σ H Q I h => ?_⟩
  obtain ⟨hs, ht⟩ := h
  refine wpAny_Call_Name_kw (thn ((pe_var (pos := p1) (i := i) hN hv hd hcd).run pins s σ H (fun v H1 => v = .ref f ∧ H1 = H) I ⟨.ref f, hs, rfl, rfl⟩) fun u s1 ⟨v, H1, I1, r1, q1⟩ => ?_)
  obtain ⟨ev, eH⟩ := q1
  subst ev
  rw [eH] at I1
  obtain rfl : u = Value.ref f := r1
  have un := reach _ _ _ _ I1
  obtain ⟨o1, o2, o3, o4, of0⟩ := Ac.fn
  refine PySem.W.callWith_F0 ⟨o1, o2, o3, o4, un.keep f _ of0 Ac.no Ac.nf (by simp)⟩ ?_
  refine wpAny_call (codeAny_mono (Ac.run Z.A Z.stack s1 H Q (WE W σ) hr I1.env0 un ht) fun r s' hq => ?_)
  cases r with
  | error e => exact L2N.passAt tk σ pins H s1 e s' I1 hq
  | ok fl =>
    cases fl with
    | ret u => exact I1.after hq
    | next => exact False.elim hq
    | brk => exact False.elim hq
    | cont => exact False.elim hq
/-- g(a), a the lambda that was got: g's run at any state told -/
theorem pe_on3 {Z : Cx} {outer0 : List Env} {s0 : Shared} {H0 : Hp} {f g : Addr} {i : Nat} {a x : Str} {R : Hp → VK → Prop} {p1 p2 p3 : Pos}
    (run : ∀ (s : Shared) (H : Hp) (Q : VK), Env0 Z.prog Z.w Z.K Z.mg Z.base Z.A Z.stack s H → Un (frs outer0) [] H0 H s0.heap s.heap → R H Q → codeAny (model Z.prog Z.w) Z.A (.call (.ref g) ⟨[.ref f], []⟩) (CR (L2N.CX Z.prog Z.w) Z.stack Z.prog Z.w H s Q (fun _ _ _ => False)) s)
    (reach : ∀ pins σ H s, Inv Z pins σ H s → Un (frs outer0) [] H0 H s0.heap s.heap) (hm : Z.mg x = some (.ref g)) (hk : PySem.W.keepIn Z.K (.ref g) = true) (hg : Gl Z x) (hN : Z.N[i]? = some a) (hv : Vis Z.env.scope a)
    (hdb : (x == ("__debug__" : Str)) = false := by decide) (hd : (a == ("__debug__" : Str)) = false := by decide) (hcd : (a == ("__classdict__" : Str)) = false := by decide) (he : starEach [.Name a p1] Z.env = (false, eval (.Name a p1) Z.env) :: starEach [] Z.env := by rfl) (hpl : (backTo p3 (starEach [] Z.env)).any (·.1) = false := by rfl) :
    PE Z (.Call (.Name x p2) [.Name a p1] [] p3) (fun σ H Q => σ[i]? = some (some (.ref f)) ∧ R H Q) := by
  refine ⟨fun pins s σ H Q I h => ?_⟩
  obtain ⟨hs, ht⟩ := h
  refine wpAny_Call_Name_kw (ld_glob I hg hm ?_ hdb)
  refine PySem.W.callWith_K (h₀ := Z.base) I.ok.mod.kin hk (thn ((pa_cons (pe_var (pos := p1) (i := i) hN hv hd hcd) pa_nil (hs := he)).run p3 pins s σ H (fun vs H1 => vs = [.ref f] ∧ H1 = H) I ⟨.ref f, hs, rfl, rfl⟩) fun us s1 ⟨vs, H1, I1, r, ev, eH⟩ => ⟨I1.kIn, ?_⟩) he hpl
  subst ev
  rw [eH] at I1
  obtain ⟨u1, rfl, r1⟩ : ∃ u1, us = [u1] ∧ RelV (.ref f) u1 := by
    cases r with
    | cons rv rn => cases rn; exact ⟨_, rfl, rv⟩
  obtain rfl : u1 = Value.ref f := r1
  refine wpAny_call (codeAny_mono (run s1 H Q I1.env0 (reach _ _ _ _ I1) ht) fun r s' hq => ?_)
  cases r with
  | error e =>
    obtain ⟨_, _, _, _, _, _, _, _, _, _, _, _, z⟩ := hq
    exact z.elim
  | ok fl =>
    cases fl with
    | ret u => exact I1.after hq
    | next => exact False.elim hq
    | brk => exact False.elim hq
    | cont => exact False.elim hq
/-- the context of the lambda's body -/
def lamCxN (X : Cx) (A : Around) (outer : List Env) (s : Shared) (H : Hp) (E : XK) (scope : Scope) (f c' : Addr) : Cx :=
  (lamCx X A outer s H E scope f c').wish fun e s' => wpAny (model X.prog X.w) (A.deeper (lamEnv X scope s.heap.objs.size f c')) (leaving (lamEnv X scope s.heap.objs.size f c') e) (fun _ s'' => L2N.CX X.prog X.w outer H s E e s'') (fun e' s'' => L2N.CX X.prog X.w outer H s E e' s'') s'
theorem lam_takes {X : Cx} {A : Around} {outer : List Env} {s : Shared} {H : Hp} {E : XK} {scope : Scope} {f c' : Addr} : L2N.Takes (lamCxN X A outer s H E scope f c') (fun cls d _ H => E cls d H) := L2N.takes_of (X := lamCxN X A outer s H E scope f c') rfl rfl rfl rfl
theorem act_of {X : Cx} {pins : List (Addr × Obj)} {σ : L2.St} {H : Hp} {s : Shared} {scope : Scope} {params : Arguments} {body : Expr} {f c' : Addr} {pm ctv : Value} {k : Nat} {tb : XK → TE} (I : Inv X pins σ H s) (L : LamS X.env.scope scope)
    (hf : s.heap.get? f = some (PySem.W.kla_obj "<lambda>" (X.env.qual ++ "<lambda>") params body scope (cloFrom X.env.cells scope.names []) pm c' ctv)) (hfn : H f = none) (hfr : f ∉ frs X.stack)
    (hbind : bindArgs (PySem.W.kla_fn "<lambda>" (X.env.qual ++ "<lambda>") params body scope (cloFrom X.env.cells scope.names []) pm (.ref c') ctv) ⟨[], []⟩ = pure [])
    (hbody : ∀ (A : Around) (outer : List Env) (s : Shared) (H : Hp) (E : XK), Room k (A.deeper (lamEnv X scope s.heap.objs.size f c')) → PE (lamCxN X A outer s H E scope f c') body (tb E)) :
    Act X.prog X.w X.K X.mg X.base (k + 1) X.stack s H f (fun E H1 Q => H1 c' = some (CodeO c' (X.env.qual ++ "<lambda>")) ∧ tb E σ H1 Q) := by
  refine ⟨⟨_, _, _, _, hf⟩, hfn, hfr, fun A outer s1 HZ Q E hr e0 un h => ?_⟩
  obtain ⟨hc, ht⟩ := h
  have of1 := un.keep f _ hf hfn hfr (by simp)
  obtain ⟨⟨oc, vs, t, hoc, hdc, hvc⟩, _, _⟩ := e0.hok c' _ hc
  have lim : s1.heap.NoLimit := e0.mod.nolimit.keeps fun b o e => (e0.bs b o e).1
  refine PySem.W.kla_callFunE hr.depth of1 rfl L.co L.gen rfl ⟨c', oc, vs, t, rfl, hoc, hdc, hvc⟩ ?_
  rw [hbind]
  refine wpAny_pure (wpAny_newFunctionEnv (fun y hy => (L.own y hy).2) (fun y hy => absurd hy (by simp)) (fun h₁ hns hsb => ⟨lim.fresh _ hsb, ?_⟩) L.kind)
  show codeAny _ _ (.expr body (lamEnv X scope s1.heap.objs.size f c')) _ _
  have kp : ∀ b o, s1.heap.get? b = some o → h₁.get? b = some o := fun b o e => hsb.extBut b o (Nat.ne_of_lt (Heap.lt_size e)) (Heap.get?_push_of_some _ e)
  have J0 : Inv (lamCx X A outer s1 HZ E scope f c') [] σ HZ { s1 with heap := h₁, toks := s1.toks + ([] : List (Str × Value)).length } := lam_start2 I L e0 hr.hd un hns kp
  have J : Inv (lamCxN X A outer s1 HZ E scope f c') [] σ HZ { s1 with heap := h₁, toks := s1.toks + ([] : List (Str × Value)).length } := J0.wish _
  refine PySem.W.kla_codeExpr (wpAny_mono ((hbody A outer s1 HZ E (hr.deeper _)).run [] _ _ HZ Q J ht) (fun v s' hq => ?_) fun e s' hq => hq)
  obtain ⟨w', H', J', rv, q⟩ := hq
  exact ⟨w', H', J'.os, J'.bare, J'.base, J'.hok, rv, q⟩
/-- x(lambda: body, e): TT, what x makes of both -/
def tLam2 (T : List (Addr × Str)) (q : Str) (TT : (XK → Hp → VK → Prop) → V → Hp → VK → Prop) (t : XK → TE) (t2 : TE) : TE := fun σ H Q => Tabs T H ∧ ∀ H1 c', ExtN H H1 → Tabs T H1 → H1 c' = some (CodeO c' q) →
  t2 σ H1 fun v H2 => TT (fun E H' Q' => H' c' = some (CodeO c' q) ∧ t E σ H' Q') v H2 Q
theorem pe_lam2 {X : Cx} {T : List (Addr × Str)} {TT : (XK → Hp → VK → Prop) → V → Hp → VK → Prop} {x : Str} {g c P : Addr} {k : Nat} {params : Arguments} {body e2 : Expr} {scope : Scope} {t : XK → TE} {t2 : TE} {p lpos pos : Pos} (hg : Gl X x) (hm : X.mg x = some (.ref g)) (hk : PySem.W.keepIn X.K (.ref g) = true)
    (hG : ∀ (f : Addr) (s : Shared) (H : Hp) (Q : VK) (tl : XK → Hp → VK → Prop) (v2 : V) (u2 : Value), Act X.prog X.w X.K X.mg X.base (k + 1) X.stack s H f tl → Env0 X.prog X.w X.K X.mg X.base X.A X.stack s H → RelV v2 u2 → TT tl v2 H Q →
      codeAny (model X.prog X.w) X.A (.call (.ref g) ⟨[.ref f, u2], []⟩) (CR (L2N.CX X.prog X.w) X.stack X.prog X.w H s Q (fun _ _ _ => False)) s)
    (TB : TabB X.base X.mg c P) (hcode : X.env.code = .ref c) (hmT : (P, X.env.qual ++ "<lambda>") ∈ T) (hu : ∀ p ∈ T, p.1 = P → p.2 = X.env.qual ++ "<lambda>") (L : LamS X.env.scope scope) (hdef : defaultsOf params X.env = ([], []))
    (hbind : ∀ (q : Str) (cl : List (Str × Addr)) (pm cv ctv : Value), bindArgs (PySem.W.kla_fn "<lambda>" q params body scope cl pm cv ctv) ⟨[], []⟩ = pure [])
    (hbody : ∀ (A : Around) (outer : List Env) (s : Shared) (H : Hp) (E : XK) (f c' : Addr), Room k (A.deeper (lamEnv X scope s.heap.objs.size f c')) → PE (lamCxN X A outer s H E scope f c') body (t E))
    (h2 : PE X e2 t2) (hdb : (x == ("__debug__" : Str)) = false := by decide) (hst : starEach [e2] X.env = (false, eval e2 X.env) :: starEach [] X.env := by rfl) :
    PE X (.Call (.Name x p) [.Lambda params body scope lpos, e2] [] pos) (tLam2 T (X.env.qual ++ "<lambda>") TT t t2) := by
  refine ⟨fun pins s σ H Q I h => ?_⟩
  obtain ⟨hT, h⟩ := h
  refine wpAny_Call_Name_kw (ld_glob I hg hm ?_ hdb)
  refine PySem.W.callWith_K (h₀ := X.base) I.ok.mod.kin hk ?_ (by rfl) (by rw [hst]; rfl)
  show wpAny _ _ (spliced ((false, eval (.Lambda params body scope lpos) X.env) :: backTo pos (starEach [e2] X.env))) _ _ s
  refine Calls.spliced_cons (lam_make2 I TB hcode hmT hu hT hdef (L.has I.ok) fun f c' pm' ctv H1 s' I1 eN T1 hf hfn hfr hco => ?_)
  have hfl : f ≠ X.env.locals := fun e => by
    obtain ⟨_, ⟨o, es, ep, e1, e2, _⟩, _⟩ := I1.loc
    rw [← e, hf] at e1
    cases e1
    cases e2
  have hfo : f ∉ X.fs := fun z => hfr (by
    rcases I1.ok.stk with e | ⟨e, q⟩
    · rw [e]; exact z
    · rw [e]
      show f ∈ frs (X.env :: X.outer)
      unfold frs
      rw [List.filterMap_cons, q]
      exact List.mem_cons_of_mem _ z)
  have I2 : Inv X (pins ++ [(f, _)]) σ H1 s' := I1.pins_of fun p hp => (List.mem_append.mp hp).elim (fun z => I1.pin p (List.mem_append_right _ z)) fun z => by
    rw [List.mem_singleton.mp z]
    exact ⟨hf, hfn, hfl, hfo, fun v z => by cases z⟩
  rw [hst]
  show wpAny _ _ (spliced ((false, eval e2 X.env) :: backTo pos (starEach [] X.env))) _ _ s'
  refine Calls.spliced_cons (thn (h2.run (pins ++ [(f, _)]) s' σ H1 _ I2 (h H1 c' eN T1 hco)) fun u2 s2 ⟨v2, H2, I3, r2, q⟩ => ?_)
  refine Calls.spliced_nil ⟨I3.kIn, ?_⟩
  have P3 := I3.pin (f, _) (List.mem_append_right _ (List.mem_append_right _ (List.mem_singleton.mpr rfl)))
  have I4 : Inv X pins σ H2 s2 := I3.unpinned
  have ac := act_of (k := k) (tb := t) I4 L P3.1 P3.2.1 hfr (hbind _ _ _ _ _) fun A outer s H E hr => hbody A outer s H E f c' hr
  refine wpAny_call (codeAny_mono (hG f s2 H2 Q _ v2 u2 ac I4.env0 r2 q) fun r s' hq => ?_)
  cases r with
  | error e =>
    obtain ⟨_, _, _, _, _, _, _, _, _, _, _, _, z⟩ := hq
    exact z.elim
  | ok fl =>
    cases fl with
    | ret u => exact I4.after hq
    | next => exact False.elim hq
    | brk => exact False.elim hq
    | cont => exact False.elim hq
end GX
/-! part GxT -/
set_option Elab.async false
set_option linter.all false
set_option maxRecDepth 100000
set_option maxHeartbeats 4000000
namespace GX
open PySem PySem.Spec PyProof.Rows L2
section
variable {X : Cx} {k j n : Nat} {x : Str} {ks : List Str} {sp : Sk} {W : WX} {p pos : Pos} {kws : List Keyword} {tk' : TA}
/-- f(k = e, ..): keywords alone -/
theorem pn_fK0 (c : CalN X.prog X.w X.K X.mg X.base k x 0 ks sp) (hr : Room j X.A) (hj : k ≤ j) (tk : L2N.Takes X W) (hg : Gl X x)
    (hkw : PK X kws tk') (hall : (backToKw pos (keywordEach kws X.env)).all (·.1.isSome) = true := by rfl) (hks : (backToKw pos (keywordEach kws X.env)).filterMap (·.1) = ks := by rfl)
    (hdb : (x == ("__debug__" : Str)) = false := by decide)
    (hpl : ((backTo pos (starEach [] X.env)).any (·.1) || (backToKw pos (keywordEach kws X.env)).any (·.1.isNone)) = false := by rfl) :
    PE X (.Call (.Name x p) [] kws pos) (tF sp W tNil tk') := by
  obtain ⟨f, hm, kp, c⟩ := c.ex
  refine ⟨fun pins s σ H Q I h => ?_⟩
  refine wpAny_Call_Name_kw (ld_glob I hg hm ?_ hdb)
  refine PySem.W.callWith_KW0 (h₀ := X.base) I.ok.mod.kin kp hall (thn (hkw.run pos pins s σ H _ I h) fun ws s2 ⟨zs, H2, I2, rz, q2⟩ => ⟨I2.kIn, ?_⟩) hpl
  rw [hks]
  exact run_cal (us := []) (vs := []) c (hr.mono hj) tk I2 .nil rz q2
end
end GX
/-! part GxV -/
set_option Elab.async false
set_option linter.all false
set_option maxRecDepth 100000
set_option maxHeartbeats 4000000
/-! the end of a law whose defs make lambdas: the tables of their code objects are empty -/
namespace GX
open PySem PySem.W PySem.Spec PyProof.Rows L2 LamX
/-- the table of the def at f is empty, and of its code object -/
def DefTab (K : Frag) (f : Addr) (h : Heap) : Prop := ∀ (c P : Addr) (o : Obj) (fd : FuncData) (e : Value) (dd : Option Addr) (vs : Array Value) (sl : Array (Option Value)), K.lookup f = some o → o.data = .func fd → fd.code = .ref c → K.lookup c = some ⟨e, dd, .fields vs, sl⟩ → vs[11]? = some (.ref P) →
  h.get? P = some { cls := .none, data := .fields #[] } ∧ CodeHd h c P
theorem walk_ofDef {l : OpenLaw} {n k : Nat} {q : Program} {loose : List Str} {XP : (Str → Option Value) → Heap → Prop} {YP : World → Heap → Prop} {d : DefRec} {K : Params → Frag} {CX : World → CXT} {x : Str} (ys : List Str)
    (hn : l.most = some n) (hn2 : n ≤ sizeLine) (hdf : d.params.defaults = []) (hr : Room k callerA) (hrec : ∀ y ∈ ys, ((recsOf q).any fun e => e.name == y) = true) (hY : ∀ (w : World) (h : Heap), YP w h → (K w.params).In h)
    (F : ∀ (w : World) (mg : Str → Option Value) (fa : Addr) (h : Heap), YP w h → (K w.params).In h → h.Ns mainGlobals mg → mg d.name = some (.ref fa) → (∀ y ∈ ys, ∀ f, mg y = some (.ref f) → DefTab (K w.params) f h) → LawAtS l w (K w.params) (CX w) k n x mg fa h)
    (hCX : ∀ (w : World) (H : Hp) (s : Shared) (e : Value) (s' : Shared), CX w [] H s (fun _ _ _ => False) e s' → False) :
    WalkO q loose XP YP l.row.toRowW d [] (fun f vs => PySem.call f vs) := by
  refine Att.attach_callB hn hdf fun w s₀ s₁ mg mb fa o pm cd doc a vs ns G Y ho hd hcd hmg hobj hints hlen hbits hg => ?_
  have KX := hY w _ Y
  have own : ∀ y ∈ ys, ∀ f, mg y = some (.ref f) → DefTab (K w.params) f s₁.heap := fun y hy f hf c P o1 fd1 e dd vs1 sl k1 k2 k3 k4 k5 => by
    obtain ⟨dL, hm, hn1⟩ := List.any_eq_true.mp (hrec y hy)
    have hn2 : dL.name = y := beq_iff_eq.mp hn1
    obtain ⟨a', o', fd', c', P', h1, h2, h3, h4, h5, h6⟩ := G.T.tab dL hm
    rw [hn2, hf] at h1
    cases h1
    have g1 := KX _ _ k1
    rw [g1] at h2
    cases h2
    rw [k2] at h3
    cases h3
    rw [k3] at h4
    cases h4
    have h6' := h6
    obtain ⟨⟨oc, vc, e1, _, e3, e4⟩, hP⟩ := h6'
    have g2 := KX _ _ k4
    rw [g2] at e1
    cases e1
    cases e3
    rw [k5] at e4
    cases e4
    exact ⟨hP, CodeHd.of h5 h6⟩
  obtain ⟨fd, cs, sp, hT, nT, C, hb, hsp, hF⟩ := F w mg fa _ Y KX G.T.g hmg own
  exact law_callTs KX G.T.g G.T.b G.T.builtins G.T.nolimit hg hT nT C G.T.bmain hobj hints (Nat.le_trans hlen hn2) hr hF hb (fun H hH hS => hsp H a ns hlen hbits hH hS) fun H e s' => hCX w H s₁ e s'
end GX
/-! part D00 -/
set_option Elab.async false
set_option linter.all false
set_option maxRecDepth 100000
set_option maxHeartbeats 4000000
namespace K00
open PySem L2 GX
def top (i : Nat) : Stmt := PySem.Challenge.pw_goesround_k00_numbers_and_errors.main.body.getD i (.Pass ⟨0, 0, 0, 0⟩)
abbrev s_check_prime : Stmt := top 26
theorem sc_check_prime : FnScope ["value"] ["value"] (defScope s_check_prime) := ⟨rfl, rfl, rfl, by decide +kernel, rfl, by decide +kernel, by decide +kernel⟩
abbrev s_reduced : Stmt := top 27
theorem sc_reduced : FnScope ["prime", "value"] ["prime", "value"] (defScope s_reduced) := ⟨rfl, rfl, rfl, by decide +kernel, rfl, by decide +kernel, by decide +kernel⟩
abbrev s_inverse_number : Stmt := top 28
theorem sc_inverse_number : FnScope ["prime", "value", "number", "inverse", "_"] ["prime", "value"] (defScope s_inverse_number) := ⟨rfl, rfl, rfl, by decide +kernel, rfl, by decide +kernel, by decide +kernel⟩
abbrev s_law_jar : Stmt := top 30
theorem sc_law_jar : FnScope ["script", "stir", "cell"] ["script"] (defScope s_law_jar) := ⟨rfl, rfl, rfl, by decide +kernel, rfl, by decide +kernel, by decide +kernel⟩
abbrev s_law_draw : Stmt := top 31
theorem sc_law_draw : FnScope ["jar", "top", "cell", "digit"] ["jar", "top"] (defScope s_law_draw) := ⟨rfl, rfl, rfl, by decide +kernel, rfl, by decide +kernel, by decide +kernel⟩
abbrev s_law_pick : Stmt := top 32
theorem sc_law_pick : FnScope ["jar", "menu"] ["jar", "menu"] (defScope s_law_pick) := ⟨rfl, rfl, rfl, by decide +kernel, rfl, by decide +kernel, by decide +kernel⟩
abbrev s_law_big : Stmt := top 33
theorem sc_law_big : FnScope ["jar", "way", "n", "k"] ["jar"] (defScope s_law_big) := ⟨rfl, rfl, rfl, by decide +kernel, rfl, by decide +kernel, by decide +kernel⟩
abbrev s_law_like : Stmt := top 34
theorem sc_law_like : FnScope ["told", "due", "k"] ["told", "due"] (defScope s_law_like) := ⟨rfl, rfl, rfl, by decide +kernel, rfl, by decide +kernel, by decide +kernel⟩
abbrev s_law_classes : Stmt := top 35
theorem sc_law_classes : FnScope ["error", "marks", "tag", "yes"] ["error"] (defScope s_law_classes) := ⟨rfl, rfl, rfl, by decide +kernel, rfl, by decide +kernel, by decide +kernel⟩
abbrev s_law_parts_of : Stmt := top 36
theorem sc_law_parts_of : FnScope ["error", "tags", "tag", "parts", "above"] ["error"] (defScope s_law_parts_of) := ⟨rfl, rfl, rfl, by decide +kernel, rfl, by decide +kernel, by decide +kernel⟩
abbrev s_law_tried : Stmt := top 37
theorem sc_law_tried : FnScope ["call", "e"] ["call"] (defScope s_law_tried) := ⟨rfl, rfl, rfl, by decide +kernel, rfl, by decide +kernel, by decide +kernel⟩
abbrev s_law_refused : Stmt := top 38
theorem sc_law_refused : FnScope ["call", "due"] ["call", "due"] (defScope s_law_refused) := ⟨rfl, rfl, rfl, by decide +kernel, rfl, by decide +kernel, by decide +kernel⟩
abbrev s_law_flip : Stmt := top 39
theorem sc_law_flip : FnScope ["p", "n", "made", "k"] ["p", "n"] (defScope s_law_flip) := ⟨rfl, rfl, rfl, by decide +kernel, rfl, by decide +kernel, by decide +kernel⟩
abbrev s_law_no_prime : Stmt := top 40
theorem sc_law_no_prime : FnScope ["jar", "n"] ["jar"] (defScope s_law_no_prime) := ⟨rfl, rfl, rfl, by decide +kernel, rfl, by decide +kernel, by decide +kernel⟩
abbrev s_law_bounds_told : Stmt := top 41
theorem sc_law_bounds_told : FnScope ["due", "tag", "n"] [] (defScope s_law_bounds_told) := ⟨rfl, rfl, rfl, by decide +kernel, rfl, by decide +kernel, by decide +kernel⟩
abbrev s_law_numbers_told : Stmt := top 42
theorem sc_law_numbers_told : FnScope ["jar", "p", "n", "bad", "told"] ["jar"] (defScope s_law_numbers_told) := ⟨rfl, rfl, rfl, by decide +kernel, rfl, by decide +kernel, by decide +kernel⟩
abbrev s_law_drawn_thing : Stmt := top 43
theorem sc_law_drawn_thing : FnScope ["jar"] ["jar"] (defScope s_law_drawn_thing) := ⟨rfl, rfl, rfl, by decide +kernel, rfl, by decide +kernel, by decide +kernel⟩
abbrev s_law_made_well : Stmt := top 44
theorem sc_law_made_well : FnScope ["e", "due"] ["e", "due"] (defScope s_law_made_well) := ⟨rfl, rfl, rfl, by decide +kernel, rfl, by decide +kernel, by decide +kernel⟩
abbrev s_law_one_field : Stmt := top 45
theorem sc_law_one_field : FnScope ["u", "e", "due"] ["u"] (defScope s_law_one_field) := ⟨rfl, rfl, rfl, by decide +kernel, rfl, by decide +kernel, by decide +kernel⟩
abbrev s_law_two_fields : Stmt := top 46
theorem sc_law_two_fields : FnScope ["u", "v", "e", "due"] ["u", "v"] (defScope s_law_two_fields) := ⟨rfl, rfl, rfl, by decide +kernel, rfl, by decide +kernel, by decide +kernel⟩
abbrev s_law_caught_by_bases : Stmt := top 47
theorem sc_law_caught_by_bases : FnScope ["u", "v", "way", "e"] ["u", "v"] (defScope s_law_caught_by_bases) := ⟨rfl, rfl, rfl, by decide +kernel, rfl, by decide +kernel, by decide +kernel⟩
abbrev s_law_raised : Stmt := top 48
theorem sc_law_raised : FnScope ["way", "u", "v"] ["way", "u", "v"] (defScope s_law_raised) := ⟨rfl, rfl, rfl, by decide +kernel, rfl, by decide +kernel, by decide +kernel⟩
abbrev s_law : Stmt := top 49
theorem sc_law : FnScope ["script", "jar", "turn", "u", "v"] ["script"] (defScope s_law) := ⟨rfl, rfl, rfl, by decide +kernel, rfl, by decide +kernel, by decide +kernel⟩

/-- what the top has left, as names -/
structure Txt (K : PySem.W.Frag) (mg : Str → Option Value) (PR : Addr) : Prop where
  m_PRIMES : mg "PRIMES" = some (.ref PR)
  m_len : mg "len" = none
  m_int : mg "int" = none
  m_str : mg "str" = none
  m_bool : mg "bool" = none
  m_list : mg "list" = none
  m_tuple : mg "tuple" = none
  m_dict : mg "dict" = none
  m_isinstance : mg "isinstance" = none
  m_range : mg "range" = none
  m_abs : mg "abs" = none
  m_ValueError : mg "ValueError" = none
  m_LookupError : mg "LookupError" = none
  m_KeyError : mg "KeyError" = none
  m_IndexError : mg "IndexError" = none
  m_RuntimeError : mg "RuntimeError" = none
end K00
/-! part A00 -/
set_option Elab.async false
set_option linter.all false
set_option maxRecDepth 100000
set_option maxHeartbeats 4000000
namespace K00
open PySem L2 GX
/-- all but b is kept -/
def Kp (b : Addr) (H H' : Hp) : Prop := ∀ c u, H c = some u → c ≠ b → H' c = some u
theorem Kp.rfl' {b : Addr} {H : Hp} : Kp b H H := fun _ _ e _ => e
theorem Kp.trans {b : Addr} {H H1 H2 : Hp} (a : Kp b H H1) (c : Kp b H1 H2) : Kp b H H2 := fun x u e ne => c x u (a x u e ne) ne
theorem Kp.put {b : Addr} {H : Hp} {o : HO} : Kp b H (upd H b o) := fun c u e ne => (upd_ne ne).trans e
theorem Same.kp {b : Addr} {H H' : Hp} (s : Same H H') : Kp b H H' := fun c u e _ => s _ _ e
/-- the jar of draws at b, at most n draws done -/
structure JarAt (H : Hp) (b : Addr) (n : Nat) : Prop where
  ex : ∃ (L : Addr) (ns : List Int) (i big left stir cnt : Int), H b = some (.lst [.ref L, .int i, .int big, .int left, .int stir, .int cnt]) ∧ H L = some (.lst (ns.map V.int)) ∧ 0 ≤ i ∧ 0 ≤ stir ∧ stir < 2147483647 ∧ 0 ≤ cnt ∧ cnt ≤ n
theorem JarAt.mono {H : Hp} {b : Addr} {m n : Nat} (B : JarAt H b m) (h : m ≤ n) : JarAt H b n := by
  obtain ⟨L, ns, i, c, l, s, cnt, h1, h2, h3, h4, h5, h6, h7⟩ := B.ex
  exact ⟨L, ns, i, c, l, s, cnt, h1, h2, h3, h4, h5, h6, by omega⟩
theorem JarAt.same {H H' : Hp} {b : Addr} {n : Nat} (B : JarAt H b n) (s : Same H H') : JarAt H' b n := by
  obtain ⟨L, ns, i, c, l, st, cnt, h1, h2, h⟩ := B.ex
  exact ⟨L, ns, i, c, l, st, cnt, s _ _ h1, s _ _ h2, h⟩
theorem JarAt.ne {H : Hp} {b : Addr} {n : Nat} {p : Addr} (B : JarAt H b n) (h : H p = none) : b ≠ p := by
  obtain ⟨L, ns, i, c, l, s, cnt, h1, _⟩ := B.ex
  exact ne_of_none h1 h
def spDraw : Sp := fun vs H Q _ => ∃ (b : Addr) (n : Nat) (top : Int), vs = [.ref b, .int top] ∧ JarAt H b n ∧ n < 1000000000 ∧ 0 < top ∧ top < 1073741824 ∧
  ∀ (r : Int) (H' : Hp), 0 ≤ r → r < top → Kp b H H' → JarAt H' b (n + 1) → Q (.int r) H'
section
variable {P : Program} {w : World} {K : PySem.W.Frag} {mg : Str → Option Value} {base : Heap} {PR : Addr} {f : Addr} {fd : FuncData}
theorem emod_lt (a : Int) {m : Int} (h : 0 < m) : 0 ≤ a % m ∧ a % m < m := ⟨Int.emod_nonneg a (by omega), Int.emod_lt_of_pos a h⟩
theorem via {P G : Hp → Prop} {H' : Hp} (c : P H') (k : ∀ H', P H' → G H') : G H' := k H' c
theorem viaS {P : L2.St → Hp → Prop} {G : L2.St → Hp → Prop} {σ : L2.St} {H' : Hp} (c : P σ H') (k : ∀ σ H', P σ H' → G σ H') : G σ H' := k σ H' c
/-- the jar within a draw -/
def DSt (H : Hp) (b L : Addr) (ns : List Int) (n : Int) (top : Int) (σ : L2.St) (H1 : Hp) : Prop := ∃ (x y : Option V) (i c l m : Int), σ = [some (.ref b), some (.int top), x, y] ∧ H1 b = some (.lst [.ref L, .int i, .int c, .int l, .int m, .int n]) ∧ H1 L = some (.lst (ns.map V.int)) ∧ 0 ≤ i ∧ 0 ≤ m ∧ m < 2147483647 ∧ Kp b H H1
theorem mem_ge {ns : List Int} {i : Int} (h : 0 ≤ i) (hl : i < ((ns.map V.int).length : Nat)) : ∃ z, atI (ns.map V.int) i = some (.int z) := by
  obtain ⟨j, rfl⟩ := Int.eq_ofNat_of_zero_le h
  have hj : j < ns.length := by
    rw [List.length_map] at hl
    omega
  refine ⟨ns[j], atI_nat ?_⟩
  rw [List.getElem?_map, List.getElem?_eq_getElem hj]
  rfl
theorem nxt {D : Ends} {σ : L2.St} {H : Hp} (h : D.nx σ H) : tNext D σ H := h
theorem seq_cut {t u : TS} {D : Ends} {σ : L2.St} {H : Hp} (P : L2.St → Hp → Prop) (tail : ∀ σ' H', P σ' H' → u D σ' H') (h : (∀ σ' H', P σ' H' → u D σ' H') → tSeq t u D σ H) : tSeq t u D σ H := h tail
theorem ok_draw (F : Fun K "_law_draw" "_law_draw" s_law_draw f fd) (T : Txt K mg PR) : FnOk P w K mg base CX0 1 f fd ["jar", "top"] spDraw := by
  refine F.ok sc_law_draw (fun vs H Q E h => ?_) (fun cdv A outer s H vs Q E hr h => ?_)
  · obtain ⟨b, n, many, rfl, _⟩ := h
    rfl
  · obtain ⟨b, n, many, rfl, B, hn, hm0, hm1, k⟩ := h
    obtain ⟨L, ns, i, big, left, stir, cnt, h1, h2, h3, h5, h6, h7, h8⟩ := B.ex
    have nd := sc_law_draw.nd
    have neLb : L ≠ b := fun e => by
      rw [e, h1] at h2
      have z := congrArg List.head? (HO.lst.inj (Option.some.inj h2))
      cases ns <;> cases z
    have kL : ∀ {H' : Hp} {o : HO}, H' L = some (.lst (ns.map V.int)) → (upd H' b o) L = some (.lst (ns.map V.int)) := fun e => (upd_ne neLb).trans e
    refine ⟨_, (pss_cons (ps_asg (pe_op op_add (pe_ix ix_list (pv 0) pe_int (fun _ _ => rfl)) pe_int) (pg_sub (pv 0) pe_int set_list))
    (pss_cons (ps_if (PW.pt (pw_and (pt_cmpR op_eq (pe_ix ix_list (pv 0) pe_int (fun _ _ => rfl)) pe_int (nomark _)) (pw_and1 (pt_cmpR op_lt (pe_ix ix_list (pv 0) pe_int (fun _ _ => rfl)) (pe_callB call_len rfl T.m_len (by decide +kernel) (pa_cons (pe_ix ix_list (pv 0) pe_int (fun _ _ => rfl)) pa_nil)) (nomark _)))))
      (pss_cons (ps_set (i := 2) nd rfl (Or.inl rfl) (pe_ix ix_list (pe_ix ix_list (pv 0) pe_int (fun _ _ => rfl)) (pe_ix ix_list (pv 0) pe_int (fun _ _ => rfl)) (fun _ _ => rfl)))
      (pss_cons (ps_asg (pe_op op_add (pe_ix ix_list (pv 0) pe_int (fun _ _ => rfl)) pe_int) (pg_sub (pv 0) pe_int set_list))
      (pss_one (ps_if (pt_cmpR op_ge (pv 2) (pe_op op_pow pe_int pe_int) (nomark _))
        (pss_cons (ps_asg (pv 2) (pg_sub (pv 0) pe_int set_list))
        (pss_one (ps_asg pe_int (pg_sub (pv 0) pe_int set_list))))
        (pss_one (ps_asg (pe_op op_mod (pe_callTy call_int1 rfl T.m_int (by decide +kernel) (pa_cons (pe_op op_add (pe_op op_add (pe_op op_mul (pe_ix ix_list (pv 0) pe_int (fun _ _ => rfl)) pe_int) (pe_op op_mul (pe_op op_mod (pe_callTy call_int1 rfl T.m_int (by decide +kernel) (pa_cons (pv 2) pa_nil)) pe_int) pe_int)) pe_int) pa_nil)) pe_int) (pg_sub (pv 0) pe_int set_list)))))))
      pss_nil)
    (pss_cons (ps_if (pt_cmpR op_gt (pe_ix ix_list (pv 0) pe_int (fun _ _ => rfl)) pe_int (nomark _))
      (pss_cons (ps_set (i := 3) nd rfl (Or.inl rfl) (pe_op op_mod (pe_callTy call_int1 rfl T.m_int (by decide +kernel) (pa_cons (pe_ix ix_list (pv 0) pe_int (fun _ _ => rfl)) pa_nil)) (pv 1)))
      (pss_cons (ps_asg (pe_op op_fdiv (pe_ix ix_list (pv 0) pe_int (fun _ _ => rfl)) (pv 1)) (pg_sub (pv 0) pe_int set_list))
      (pss_cons (ps_asg (pe_ifExp (pt_cmpR op_gt (pe_ix ix_list (pv 0) pe_int (fun _ _ => rfl)) pe_int (nomark _)) (pe_op op_sub (pe_ix ix_list (pv 0) pe_int (fun _ _ => rfl)) pe_int) pe_int) (pg_sub (pv 0) pe_int set_list))
      (pss_one (ps_ret (pv 3))))))
      pss_nil)
    (pss_cons (ps_asg (pe_op op_mod (pe_callTy call_int1 rfl T.m_int (by decide +kernel) (pa_cons (pe_op op_add (pe_op op_add (pe_op op_pow (pe_ix ix_list (pv 0) pe_int (fun _ _ => rfl)) pe_int) (pe_op op_mul (pe_ix ix_list (pv 0) pe_int (fun _ _ => rfl)) pe_int)) pe_int) pa_nil)) pe_int) (pg_sub (pv 0) pe_int set_list))
    (pss_one (ps_ret (pe_op op_mod (pe_callTy call_int1 rfl T.m_int (by decide +kernel) (pa_cons (pe_op op_add (pe_op op_fdiv (pe_ix ix_list (pv 0) pe_int (fun _ _ => rfl)) pe_int) (pe_op op_mul (pe_op op_mod (pe_callTy call_int1 rfl T.m_int (by decide +kernel) (pa_cons (pe_ix ix_list (pv 0) pe_int (fun _ _ => rfl)) pa_nil)) pe_int) pe_int)) pa_nil)) (pv 1)))))))), ?_⟩
    refine ⟨_, rfl, b, _, _, _, rfl, rfl, SqL.of h1, rfl, _, _, rfl, rfl, _, rfl, b, _, _, 5, rfl, rfl, h1, rfl, ?_⟩
    with_reducible conv => whnf
    refine seq_cut (DSt H b L ns (cnt + 1) many) ?_ fun tail => ?_
    · rintro σ H1 ⟨x, y, i, c, l, m, rfl, g1, g2, g3, g5, g6, g7⟩
      have fin : ∀ (H2 : Hp) (i c l m : Int), H2 b = some (.lst [.ref L, .int i, .int c, .int l, .int m, .int (cnt + 1)]) → H2 L = some (.lst (ns.map V.int)) → 0 ≤ i → 0 ≤ m → m < 2147483647 → Kp b H H2 → ∀ r, 0 ≤ r → r < many → Q (.int r) H2 :=
        fun H2 i c l m a1 a2 a3 a5 a6 a7 r r1 r2 => k r H2 r1 r2 a7 ⟨L, ns, i, c, l, m, cnt + 1, a1, a2, a3, a5, a6, by omega, by omega⟩
      refine ⟨_, rfl, b, _, _, _, rfl, rfl, SqL.of g1, rfl, _, _, rfl, rfl, _, rfl, ?_⟩
      refine ite2 (fun hc0 => ?_) (fun hc0 => ?_)
      · refine ⟨_, rfl, b, _, _, _, rfl, rfl, SqL.of g1, rfl, .inl ⟨_, rfl, _, rfl, _, _, rfl, rfl, hm0, ?_⟩⟩
        refine ⟨_, rfl, b, _, _, _, rfl, rfl, SqL.of g1, rfl, _, rfl, _, _, rfl, rfl, ⟨hm0, hm1⟩, _, rfl, b, _, _, 2, rfl, rfl, g1, rfl, ?_⟩
        with_reducible conv => whnf
        refine ⟨_, rfl, b, _, _, _, rfl, rfl, SqL.of upd_same, rfl, _, _, rfl, rfl, _, rfl, ?_⟩
        refine ite2 (fun hc1 => ?_) (fun hc1 => ?_)
        · refine ⟨_, rfl, b, _, _, _, rfl, rfl, SqL.of upd_same, rfl, _, _, rfl, rfl, _, rfl, b, _, _, 3, rfl, rfl, upd_same, rfl, ?_⟩
          refine ⟨_, rfl, ?_⟩
          exact fin _ i _ _ m upd_same (kL (kL g2)) g3 g5 g6 ((g7.trans Kp.put).trans Kp.put) _ (emod_lt c hm0).1 (emod_lt c hm0).2
        · refine ⟨_, rfl, b, _, _, 3, rfl, rfl, upd_same, rfl, ?_⟩
          refine ⟨_, rfl, ?_⟩
          exact fin _ i _ _ m upd_same (kL (kL g2)) g3 g5 g6 ((g7.trans Kp.put).trans Kp.put) _ (emod_lt c hm0).1 (emod_lt c hm0).2
      · refine ⟨_, rfl, b, _, _, _, rfl, rfl, SqL.of g1, rfl, _, _, rfl, rfl, ⟨by decide, by decide, ?_⟩, _, rfl, b, _, _, _, rfl, rfl, SqL.of g1, rfl, _, _, rfl, rfl, .inr ⟨by decide, by decide⟩, ?_⟩
        · omega
        refine ⟨_, _, rfl, rfl, _, _, rfl, rfl, .inl ⟨_, rfl, _, _, rfl, rfl, (by show (0 : Int) < 2147483579; decide), _, rfl, b, _, _, 4, rfl, rfl, g1, rfl, ?_⟩⟩
        refine ⟨_, rfl, b, _, _, _, rfl, rfl, SqL.of upd_same, rfl, _, _, rfl, rfl, ⟨by decide, by decide⟩, _, rfl, b, _, _, _, rfl, rfl, SqL.of upd_same, rfl, .inl ⟨_, rfl, _, _, rfl, rfl, (by show (0 : Int) < 6007; decide), _, _, rfl, rfl, .inr ⟨by decide, by decide⟩, _, _, rfl, rfl, .inl ⟨_, rfl, _, rfl, _, _, rfl, rfl, hm0, ?_⟩⟩⟩
        exact fin _ i c _ _ upd_same (kL g2) g3 (emod_lt _ (by decide)).1 (Int.lt_trans (emod_lt _ (by decide)).2 (by decide)) (g7.trans Kp.put) _ (emod_lt _ hm0).1 (emod_lt _ hm0).2
    refine ⟨_, rfl, b, _, _, _, rfl, rfl, SqL.of upd_same, rfl, rfl, _, rfl, ?_⟩
    refine ite2 (fun hc0 => ?_) (fun hc0 => ?_)
    · refine ⟨_, rfl, b, _, _, _, rfl, rfl, SqL.of upd_same, rfl, _, rfl, b, _, _, _, rfl, rfl, SqL.of upd_same, rfl, _, _, rfl, .inl ⟨_, SqL.of (kL h2), rfl⟩, _, _, rfl, rfl, _, rfl, ?_⟩
      refine ite2 (fun hc1 => ?_) (fun hc1 => ?_)
      · have hc2 := of_decide_eq_true hc1
        obtain ⟨z, hz⟩ := mem_ge h3 hc2
        refine ⟨_, rfl, b, _, _, _, rfl, rfl, SqL.of upd_same, rfl, _, rfl, b, _, _, _, rfl, rfl, SqL.of upd_same, rfl, L, _, _, _, rfl, rfl, SqL.of (kL h2), hz, ?_⟩
        refine ⟨_, rfl, b, _, _, _, rfl, rfl, SqL.of upd_same, rfl, _, _, rfl, rfl, _, rfl, b, _, _, 1, rfl, rfl, upd_same, rfl, ?_⟩
        refine ⟨_, rfl, _, _, rfl, rfl, ⟨by decide, by decide, by decide⟩, _, _, rfl, rfl, _, rfl, ?_⟩
        refine ite2 (fun hc3 => ?_) (fun hc3 => ?_)
        · refine ⟨_, rfl, _, rfl, b, _, _, 2, rfl, rfl, upd_same, rfl, ?_⟩
          refine ⟨_, rfl, b, _, _, 3, rfl, rfl, upd_same, rfl, ?_⟩
          with_reducible conv => whnf
          refine tail _ _ ?_
          exact ⟨_, _, i + 1, z, 60, stir, rfl, upd_same, kL (kL (kL (kL h2))), by omega, h5, h6, ((Kp.put.trans Kp.put).trans Kp.put).trans Kp.put⟩
        · refine ⟨_, rfl, b, _, _, _, rfl, rfl, SqL.of upd_same, rfl, _, _, rfl, rfl, .inr ⟨by decide, by decide⟩, _, rfl, .inl ⟨_, rfl, _, _, rfl, rfl, (by show (0 : Int) < 2147483549; decide), _, _, rfl, rfl, .inr ⟨by decide, by decide⟩, _, _, rfl, rfl,
            _, _, rfl, rfl, .inl ⟨_, rfl, _, _, rfl, rfl, (by show (0 : Int) < 2147483579; decide), _, rfl, b, _, _, 4, rfl, rfl, upd_same, rfl, ?_⟩⟩⟩
          with_reducible conv => whnf
          refine tail _ _ ?_
          exact ⟨_, _, i + 1, big, left, _, rfl, upd_same, kL (kL (kL h2)), by omega, (emod_lt _ (by decide)).1, Int.lt_trans (emod_lt _ (by decide)).2 (by decide), (Kp.put.trans Kp.put).trans Kp.put⟩
      · refine nxt ?_
        with_reducible conv => whnf
        refine tail _ _ ?_
        exact ⟨_, _, i, big, left, stir, rfl, upd_same, kL h2, h3, h5, h6, Kp.put⟩
    · refine iteF ?_
      refine nxt ?_
      with_reducible conv => whnf
      refine tail _ _ ?_
      exact ⟨_, _, i, big, left, stir, rfl, upd_same, kL h2, h3, h5, h6, Kp.put⟩
end
end K00
/-! part B00 -/
set_option Elab.async false
set_option linter.all false
set_option maxRecDepth 100000
set_option maxHeartbeats 4000000
namespace K00
open PySem L2 GX
theorem gnm {i : Nat} {x : V} {σ : L2.St} {H : Hp} {G : L2.St → Hp → Prop} (h : G (σ.set i (some x)) H) : gName i x σ H G := h
def spJar (K : PySem.W.Frag) : Sp := fun vs H Q _ => ∃ (a : Addr) (ns : List Int), vs = [.ref a] ∧ SqL K H a (ns.map V.int) ∧ ∀ b H', Same H H' → H b = none → JarAt H' b 0 → Q (.ref b) H'
theorem cut_ints (ns : List Int) (lo hi : Option Int) : ∃ ms : List Int, cutV (ns.map V.int) lo hi = ms.map V.int := by
  unfold cutV
  exact ⟨_, by rw [← List.map_drop, ← List.map_take]⟩
def spPick (K : PySem.W.Frag) : Sp := fun vs H Q _ => ∃ (b p : Addr) (n : Nat) (xs : List V), vs = [.ref b, .ref p] ∧ JarAt H b n ∧ n < 1000000000 ∧ H p = some (.lst xs) ∧ p ≠ b ∧ 0 < xs.length ∧ xs.length < 1000 ∧
  ∀ (x : V) (H' : Hp), x ∈ xs → Kp b H H' → JarAt H' b (n + 1) → Q x H'
def spBig : Sp := fun vs H Q _ => ∃ (b : Addr) (n : Nat), vs = [.ref b] ∧ JarAt H b n ∧ n < 100000000 ∧ ∀ (r : Int) (H' : Hp), Kp b H H' → JarAt H' b (n + 20) → Q (.int r) H'
theorem Kp.of_same {b p : Addr} {H H' : Hp} {o : HO} (n : H p = none) (k : Kp b (upd H p o) H') : Kp b H H' := fun c u e nb => k c u (by rw [upd_ne (ne_of_none e n)]; exact e) nb
/-- the powers of n modulo p, as the flip takes them -/
def pw (p n : Int) : Nat → Int
  | 0 => 1
  | k + 1 => pw p n k * n % p
def spFlip : Sp := fun vs H Q _ => ∃ p n : Int, vs = [.int p, .int n] ∧ 1 < p ∧ p < 1000 ∧ Q (.int (pw p n (p - 2).toNat)) H
theorem pw_lt (p n : Int) (hp : 1 < p) (k : Nat) : 0 ≤ pw p n k ∧ pw p n k < p := by
  cases k with
  | zero => exact ⟨by show (0 : Int) ≤ 1; decide, hp⟩
  | succ k => exact emod_lt _ (by omega)
section
variable {P : Program} {w : World} {K : PySem.W.Frag} {mg : Str → Option Value} {base : Heap} {PR : Addr} {f : Addr} {fd : FuncData}
theorem ok_jar (F : Fun K "_law_jar" "_law_jar" s_law_jar f fd) (T : Txt K mg PR) : FnOk P w K mg base CX0 1 f fd ["script"] (spJar K) := by
  refine F.ok sc_law_jar (fun vs H Q E h => ?_) (fun cdv A outer s H vs Q E hr h => ?_)
  · obtain ⟨a, ns, rfl, _⟩ := h
    rfl
  · obtain ⟨a, ns, rfl, hS, k⟩ := h
    have nd := sc_law_jar.nd
    obtain ⟨ms, hms⟩ := cut_ints ns none (some 63)
    refine ⟨_, (pss_cons (ps_set (i := 1) nd rfl (Or.inl rfl) pe_int)
    (pss_cons (ps_for PassesOwn.never rfl (pi_list (pe_slice sl_list (pv 0) po_none (po_some pe_int))) (pg_name (i := 2) nd rfl (Or.inl rfl))
      (pss_one (ps_set (i := 1) nd rfl (Or.inl rfl) (pe_op op_mod (pe_callTy call_int1 rfl T.m_int (by decide +kernel) (pa_cons (pe_op op_add (pe_op op_add (pe_op op_mul (pv 1) pe_int) (pe_op op_mod (pe_callTy call_int1 rfl T.m_int (by decide +kernel) (pa_cons (pv 2) pa_nil)) pe_int)) pe_int) pa_nil)) pe_int))))
    (pss_one (ps_ret (pe_lst (pa_cons (pe_callTy call_list_of rfl T.m_list (by decide +kernel) (pa_cons (pe_slice sl_list (pv 0) po_none (po_some pe_int)) pa_nil)) (pa_cons pe_int (pa_cons pe_int (pa_cons pe_int (pa_cons (pv 1) (pa_cons pe_int pa_nil))))))))))), ?_⟩
    refine ⟨_, rfl, _, rfl, a, _, rfl, hS, fun p np => ⟨p, rfl, ⟨_, SqL.of upd_same⟩, ?_⟩⟩
    have sp : Same H (upd H p (.lst (cutV (ns.map V.int) none (some 63)))) := Same.put np
    refine for_list (K := K) (a := p) (xs := ms.map V.int) (fun i σ H2 => ∃ (m : Int) (v : Option V), σ = [some (.ref a), some (.int m), v] ∧ 0 ≤ m ∧ m < 2147483647 ∧ H2 = upd H p (.lst (ms.map V.int)))
      ⟨_, _, rfl, by omega, by omega, by rw [hms]⟩ (fun i σ H2 _ ⟨_, _, _, _, _, e⟩ => by rw [e]; exact SqL.of upd_same) ?_ ?_
    · rintro i y σ H2 hi ⟨m, v, rfl, h0, h1, rfl⟩
      obtain ⟨z, rfl⟩ : ∃ z, y = V.int z := by
        rw [List.getElem?_map] at hi
        cases e : ms[i]? with
        | none => rw [e] at hi; cases hi
        | some z => rw [e] at hi; exact ⟨z, (Option.some.inj hi).symm⟩
      refine ⟨_, rfl, _, _, rfl, rfl, .inr ⟨by decide, by decide⟩, _, rfl, .inl ⟨_, rfl, _, _, rfl, rfl, (by show (0 : Int) < 2147483549; decide), _, _, rfl, rfl, _, _, rfl, rfl, .inl ⟨_, rfl, _, _, rfl, rfl, (by show (0 : Int) < 2147483579; decide), ?_⟩⟩⟩
      exact ⟨_, _, rfl, (emod_lt _ (by decide)).1, Int.lt_trans (emod_lt _ (by decide)).2 (by decide), rfl⟩
    · rintro σ H2 ⟨m, v, rfl, h0, h1, rfl⟩
      have sp2 : Same H (upd H p (.lst (ms.map V.int))) := Same.put np
      refine ⟨_, rfl, _, rfl, a, _, rfl, sp2.seq hS, fun q nq => ⟨q, _, rfl, .inl (SqL.of upd_same), fun L nL => ?_⟩⟩
      have s3 : Same (upd H p (.lst (ms.map V.int))) _ := (Same.put (o := .lst (cutV (ns.map V.int) none (some 63))) nq).trans (Same.put (o := .lst (cutV (ns.map V.int) none (some 63))) nL)
      refine ⟨_, rfl, by show 6 ≤ sizeLine; decide, fun b nb => ?_⟩
      refine k b _ (sp2.trans (s3.trans (Same.put nb))) ((sp2.trans s3).free nb) ⟨L, ms, 0, 0, 0, m, 0, upd_same, ?_, by decide, h0, h1, by decide, by decide⟩
      rw [upd_ne (ne_of_none upd_same nb), upd_same, hms]
theorem ok_pick (F : Fun K "_law_pick" "_law_pick" s_law_pick f fd) (T : Txt K mg PR) (g_law_draw : CalN P w K mg base 1 "_law_draw" 2 [] (sk spDraw)) : FnOk P w K mg base CX0 2 f fd ["jar", "menu"] (spPick K) := by
  refine F.ok sc_law_pick (fun vs H Q E h => ?_) (fun cdv A outer s H vs Q E hr h => ?_)
  · obtain ⟨b, p, n, xs, rfl, _⟩ := h
    rfl
  · obtain ⟨b, p, n, xs, rfl, B, hn, hp, npb, hl0, hl1, k⟩ := h
    have nd := sc_law_pick.nd
    refine ⟨_, (pss_one (ps_ret (pe_ix ix_list (pv 1) (pn_f g_law_draw hr (by decide) takes0N rfl (pa_cons (pv 0) (pa_cons (pe_callB call_len rfl T.m_len (by decide +kernel) (pa_cons (pv 1) pa_nil)) pa_nil))) (fun _ _ => rfl)))), ?_⟩
    refine ⟨_, rfl, _, rfl, _, rfl, _, _, rfl, .inl ⟨_, SqL.of hp, rfl⟩, rfl, b, n, _, rfl, B, hn, by omega, by omega, fun r H' r0 r1 kp B' => ?_⟩
    obtain ⟨j, rfl⟩ := Int.eq_ofNat_of_zero_le r0
    have hj : j < xs.length := by omega
    exact ⟨p, _, _, _, rfl, rfl, SqL.of (kp _ _ hp npb), atI_nat (List.getElem?_eq_getElem hj), k _ _ (List.getElem_mem hj) kp B'⟩
theorem ok_big (F : Fun K "_law_big" "_law_big" s_law_big f fd) (T : Txt K mg PR) (g_law_draw : CalN P w K mg base 1 "_law_draw" 2 [] (sk spDraw)) : FnOk P w K mg base CX0 2 f fd ["jar"] spBig := by
  refine F.ok sc_law_big (fun vs H Q E h => ?_) (fun cdv A outer s H vs Q E hr h => ?_)
  · obtain ⟨b, n, rfl, _⟩ := h
    rfl
  · obtain ⟨b, n, rfl, B, hn, k⟩ := h
    have nd := sc_law_big.nd
    refine ⟨_, (pss_cons (ps_set (i := 1) nd rfl (Or.inl rfl) (pn_f g_law_draw hr (by decide) takes0N rfl (pa_cons (pv 0) (pa_cons pe_int pa_nil))))
    (pss_cons (ps_if (pt_cmpR op_lt (pv 1) pe_int (nomark _))
      (pss_one (ps_ret (pe_op op_sub (pn_f g_law_draw hr (by decide) takes0N rfl (pa_cons (pv 0) (pa_cons pe_int pa_nil))) pe_int)))
      pss_nil)
    (pss_cons (ps_set (i := 2) nd rfl (Or.inl rfl) (pn_f g_law_draw hr (by decide) takes0N rfl (pa_cons (pv 0) (pa_cons (pe_op op_pow pe_int pe_int) pa_nil))))
    (pss_cons (ps_if (pt_cmpR op_eq (pv 1) pe_int (nomark _))
      (pss_one (ps_for PassesOwn.never rfl (pi_range1 rfl T.m_range (pa_cons (pn_f g_law_draw hr (by decide) takes0N rfl (pa_cons (pv 0) (pa_cons pe_int pa_nil))) pa_nil)) (pg_name (i := 3) nd rfl (Or.inl rfl))
        (pss_one (ps_set (i := 2) nd rfl (Or.inl rfl) (pe_op op_add (pe_op op_mul (pv 2) (pe_op op_pow pe_int pe_int)) (pn_f g_law_draw hr (by decide) takes0N rfl (pa_cons (pv 0) (pa_cons (pe_op op_pow pe_int pe_int) pa_nil))))))))
      pss_nil)
    (pss_one (ps_ret (pe_ifExp (pt_cmpR op_eq (pn_f g_law_draw hr (by decide) takes0N rfl (pa_cons (pv 0) (pa_cons pe_int pa_nil))) pe_int (nomark _)) (pv 2) (pe_op op_sub pe_int (pv 2))))))))), ?_⟩
    refine ⟨_, rfl, rfl, b, n, 4, rfl, B, by omega, by decide, by decide, fun r H1 r0 r1 k1 B1 => ?_⟩
    refine ⟨_, rfl, _, _, rfl, rfl, _, rfl, ?_⟩
    refine ite2 (fun hc => ?_) (fun hc => ?_)
    · refine ⟨_, rfl, rfl, b, _, 80, rfl, B1, by omega, by decide, by decide, fun r2 H2 _ _ k2 B2 => ⟨_, _, rfl, rfl, ?_⟩⟩
      exact k _ _ (k1.trans k2) (B2.mono (by omega))
    · refine nxt ?_
      refine ⟨_, rfl, _, _, rfl, rfl, ⟨by decide, by decide, by decide⟩, rfl, b, _, _, rfl, B1, by omega, by decide, by decide, fun r2 H2 _ _ k2 B2 => ?_⟩
      refine gnm ?_
      with_reducible conv => whnf
      refine seq_cut (fun σ H3 => ∃ (z : Int) (y : Option V), σ = [some (.ref b), some (.int r), some (.int z), y] ∧ JarAt H3 b (n + 15) ∧ Kp b H H3) ?_ fun tail => ?_
      · rintro σ H3 ⟨z, y, rfl, B3, k3⟩
        refine ⟨_, rfl, rfl, b, _, 2, rfl, B3, by omega, by decide, by decide, fun r4 H4 _ _ k4 B4 => ⟨rfl, _, rfl, ?_⟩⟩
        refine ite2 (fun hc4 => ?_) (fun hc4 => ?_)
        · exact ⟨_, rfl, k _ _ (k3.trans k4) (B4.mono (by omega))⟩
        · exact ⟨_, rfl, _, _, rfl, rfl, k _ _ (k3.trans k4) (B4.mono (by omega))⟩
      refine ⟨_, rfl, rfl, _, rfl, ?_⟩
      refine ite2 (fun hc3 => ?_) (fun hc3 => ?_)
      · refine ⟨_, rfl, rfl, b, _, 10, rfl, B2, by omega, by decide, by decide, fun r3 H3 a3 c3 k3 B3 => ?_⟩
        refine ⟨r3, rfl, by omega, by omega, for_range (n := r3.toNat) (fun i σ H' => ∃ (z : Int) (y : Option V), σ = [some (.ref b), some (.int r), some (.int z), y] ∧ JarAt H' b (n + 3 + i) ∧ Kp b H H') ⟨_, _, rfl, B3.mono (by omega), (k1.trans k2).trans k3⟩ ?_ ?_⟩
        · rintro i σ H4 hi ⟨z, y, rfl, B4, k4⟩
          refine ⟨_, rfl, _, _, rfl, rfl, ⟨by decide, by decide, by decide⟩, _, _, rfl, rfl, .inr ⟨by decide, by decide⟩, _, rfl, _, _, rfl, rfl, ⟨by decide, by decide, by decide⟩, rfl, b, _, _, rfl, B4, by omega, by decide, by decide, fun r5 H5 _ _ k5 B5 => ?_⟩
          refine ⟨_, _, rfl, rfl, ?_⟩
          exact ⟨_, _, rfl, B5.mono (by omega), k4.trans k5⟩
        · rintro σ H4 ⟨z, y, rfl, B4, k4⟩
          refine tail _ _ ⟨_, _, rfl, B4.mono (by omega), k4⟩
      · refine nxt ?_
        refine tail _ _ ⟨_, _, rfl, B2.mono (by omega), k1.trans k2⟩
theorem ok_flip (F : Fun K "_law_flip" "_law_flip" s_law_flip f fd) (T : Txt K mg PR) : FnOk P w K mg base CX0 1 f fd ["p", "n"] spFlip := by
  refine F.ok sc_law_flip (fun vs H Q E h => ?_) (fun cdv A outer s H vs Q E hr h => ?_)
  · obtain ⟨p, n, rfl, _⟩ := h
    rfl
  · obtain ⟨p, n, rfl, h1, h2, k⟩ := h
    have nd := sc_law_flip.nd
    refine ⟨_, (pss_cons (ps_set (i := 2) nd rfl (Or.inl rfl) pe_int)
    (pss_cons (ps_for PassesOwn.never rfl (pi_range1 rfl T.m_range (pa_cons (pe_op op_sub (pv 0) pe_int) pa_nil)) (pg_name (i := 3) nd rfl (Or.inl rfl))
      (pss_one (ps_set (i := 2) nd rfl (Or.inl rfl) (pe_op op_mod (pe_callTy call_int1 rfl T.m_int (by decide +kernel) (pa_cons (pe_op op_mul (pv 2) (pv 1)) pa_nil)) (pv 0)))))
    (pss_one (ps_ret (pv 2))))), ?_⟩
    refine ⟨_, rfl, _, _, rfl, rfl, p - 2, rfl, by omega, by omega, for_range (n := (p - 2).toNat) (fun i σ H' => ∃ (y : Option V), σ = [some (.int p), some (.int n), some (.int (pw p n i)), y] ∧ H' = H) ⟨_, rfl, rfl⟩ ?_ ?_⟩
    · rintro i σ H4 hi ⟨y, rfl, rfl⟩
      have z := pw_lt p n h1 i
      refine ⟨_, rfl, _, rfl, _, _, rfl, rfl, .inl ⟨by omega, by omega⟩, .inl ⟨_, rfl, _, rfl, _, _, rfl, rfl, by omega, ?_⟩⟩
      exact ⟨_, rfl, rfl⟩
    · rintro σ H4 ⟨y, rfl, rfl⟩
      exact ⟨_, rfl, k⟩
end
end K00
/-! part C00 -/
set_option Elab.async false
set_option linter.all false
set_option maxRecDepth 100000
set_option maxHeartbeats 4000000
namespace K00
open PySem L2 GX
def tyN (l : Bool) : Value := if l then .type "list" else .type "tuple"
def SqX (K : PySem.W.Frag) (H : Hp) : Bool → Addr → List V → Prop
  | true, a, xs => H a = some (.lst xs)
  | false, a, xs => H a = some (.tup xs) ∨ ∃ (o : Obj) (its : Array Value) (n : Nat), K.lookup a = some o ∧ o.cls = .type "tuple" ∧ o.data = .seq its n ∧ its.size ≤ sizeLine ∧ Vals xs its.toList
theorem SqX.ty {K : PySem.W.Frag} {H : Hp} {l : Bool} {a : Addr} {xs : List V} (h : SqX K H l a xs) : TyX K H (.ref a) (tyN l) := by
  cases l with
  | true => exact .base (.lst h)
  | false =>
    rcases h with h | ⟨o, its, n, h1, h2, _⟩
    · exact .base (.tup h)
    · exact .kTuple h1 h2
theorem SqX.sq {K : PySem.W.Frag} {H : Hp} {l : Bool} {a : Addr} {xs : List V} (h : SqX K H l a xs) : SqL K H a xs ∨ SqT K H a xs := by
  cases l with
  | true => exact .inl (SqL.of h)
  | false =>
    rcases h with h | h
    · exact .inr (SqT.of h)
    · exact .inr (.inr h)
theorem SqX.same {K : PySem.W.Frag} {H H' : Hp} {l : Bool} {a : Addr} {xs : List V} (h : SqX K H l a xs) (s : Same H H') : SqX K H' l a xs := by
  cases l with
  | true => exact s _ _ h
  | false => exact h.imp (s _ _) id
/-- two things that are alike: flat ones, or lists or tuples of such, less than n deep -/
def LkV (K : PySem.W.Frag) (H : Hp) : Nat → V → V → Prop
  | 0, _, _ => False
  | n + 1, x, y => (x = y ∧ flatV x = true) ∨ ∃ (l : Bool) (a b : Addr) (xs ys : List V), x = .ref a ∧ y = .ref b ∧ SqX K H l a xs ∧ SqX K H l b ys ∧ xs.length = ys.length ∧ xs.length < 1000 ∧
      ∀ (i : Nat) u v, xs[i]? = some u → ys[i]? = some v → LkV K H n u v
theorem LkV.same {K : PySem.W.Frag} {H H' : Hp} (s : Same H H') : ∀ {n : Nat} {x y : V}, LkV K H n x y → LkV K H' n x y
  | 0, _, _, h => h
  | n + 1, _, _, h => h.imp id fun ⟨l, a, b, xs, ys, e1, e2, s1, s2, e3, e4, h⟩ => ⟨l, a, b, xs, ys, e1, e2, s1.same s, s2.same s, e3, e4, fun i u v h1 h2 => (h i u v h1 h2).same s⟩
theorem LkV.flat {K : PySem.W.Frag} {H : Hp} {n : Nat} {x : V} (h : flatV x = true) : LkV K H (n + 1) x x := .inl ⟨rfl, h⟩
def spLike (K : PySem.W.Frag) (n : Nat) : SpG := fun _ vs H Q _ => ∃ x y, vs = [x, y] ∧ LkV K H n x y ∧ Q (.bl true) H
section
variable {P : Program} {w : World} {K : PySem.W.Frag} {mg : Str → Option Value} {base : Heap} {PR : Addr} {f : Addr} {fd : FuncData}
theorem tor_t {t u : TT} {σ : L2.St} {H : Hp} {Q : Bool → Hp → Prop} (l : Bool) (h1 : ∀ R : Bool → Hp → Prop, R l H → t σ H R) (h2 : ∀ R : Bool → Hp → Prop, R (!l) H → u σ H R) (q : Q true H) : tOr t u σ H Q := by
  refine h1 _ ?_
  cases l with
  | true => exact q
  | false => exact h2 Q q
theorem tif {t : TT} {a b : TS} {D : Ends} {σ : L2.St} {H : Hp} (h : t σ H fun c H1 => if c = true then a D σ H1 else b D σ H1) : tIfS t a b D σ H := h
theorem SqX.ix {H : Hp} {l : Bool} {a : Addr} {xs : List V} {i : Nat} {v : V} {Q : VK} (h : SqX K H l a xs) (e : xs[i]? = some v) (q : Q v H) : rIxL K (.ref a) (.int ((0 : Int) + (i : Int))) H Q ∨ rIxT K (.ref a) (.int ((0 : Int) + (i : Int))) H Q := by
  have z : atI xs ((0 : Int) + (i : Int)) = some v := by rw [Int.zero_add]; exact atI_nat e
  rcases h.sq with h | h
  · exact .inl ⟨a, xs, _, v, rfl, rfl, h, z, q⟩
  · exact .inr ⟨a, xs, _, v, rfl, rfl, h, z, q⟩
theorem ok_like {n : Nat} (F : Fun K "_law_like" "_law_like" s_law_like f fd) (T : Txt K mg PR) (g : CalG P w K mg base n "_law_like" 2 (spLike K n)) : FnG P w K mg base (n + 1) f fd ["told", "due"] (spLike K (n + 1)) := by
  obtain ⟨oc, od, kV, doc, pm, an, cdv, ct, osl, rfl, lk, hcd⟩ := F.ex
  refine fn_ofG lk hcd sc_law_like (fun o vs H Q E h => ?_) fun A outer s H vs Q E o heat h => ?_
  · obtain ⟨x, y, rfl, _⟩ := h
    rfl
  · obtain ⟨x, y, rfl, hl, k⟩ := h
    have nd := sc_law_like.nd
    refine ⟨_, (pss_cons (ps_if (pt_val (pe_callB call_isi rfl T.m_isinstance (by decide +kernel) (pa_cons (pv 1) (pa_cons (pe_bltn (v := .ty "bool") (u := .type "bool") rfl T.m_bool (by decide +kernel) rfl) pa_nil))))
      (pss_one (ps_ret (pe_and (pe_callB call_isi rfl T.m_isinstance (by decide +kernel) (pa_cons (pv 0) (pa_cons (pe_bltn (v := .ty "bool") (u := .type "bool") rfl T.m_bool (by decide +kernel) rfl) pa_nil))) (pe_one (pe_cmpR op_eq (pv 0) (pv 1) (nomark _))))))
      pss_nil)
    (pss_cons (ps_if (pt_val (pe_callB call_isi rfl T.m_isinstance (by decide +kernel) (pa_cons (pv 1) (pa_cons (pe_bltn (v := .ty "int") (u := .type "int") rfl T.m_int (by decide +kernel) rfl) pa_nil))))
      (pss_one (ps_ret (pe_and (pe_callB call_isi rfl T.m_isinstance (by decide +kernel) (pa_cons (pv 0) (pa_cons (pe_bltn (v := .ty "int") (u := .type "int") rfl T.m_int (by decide +kernel) rfl) pa_nil))) (pe_and (pe_not (pe_callB call_isi rfl T.m_isinstance (by decide +kernel) (pa_cons (pv 0) (pa_cons (pe_bltn (v := .ty "bool") (u := .type "bool") rfl T.m_bool (by decide +kernel) rfl) pa_nil)))) (pe_one (pe_cmpR op_eq (pv 0) (pv 1) (nomark _)))))))
      pss_nil)
    (pss_cons (ps_if (pt_val (pe_callB call_isi rfl T.m_isinstance (by decide +kernel) (pa_cons (pv 1) (pa_cons (pe_bltn (v := .ty "str") (u := .type "str") rfl T.m_str (by decide +kernel) rfl) pa_nil))))
      (pss_one (ps_ret (pe_and (pe_callB call_isi rfl T.m_isinstance (by decide +kernel) (pa_cons (pv 0) (pa_cons (pe_bltn (v := .ty "str") (u := .type "str") rfl T.m_str (by decide +kernel) rfl) pa_nil))) (pe_one (pe_cmpR op_eq (pv 0) (pv 1) (nomark _))))))
      pss_nil)
    (pss_cons (ps_if (PW.pt (pw_or (pt_val (pe_callB call_isi rfl T.m_isinstance (by decide +kernel) (pa_cons (pv 1) (pa_cons (pe_bltn (v := .ty "list") (u := .type "list") rfl T.m_list (by decide +kernel) rfl) pa_nil)))) (pw_or1 (pt_val (pe_callB call_isi rfl T.m_isinstance (by decide +kernel) (pa_cons (pv 1) (pa_cons (pe_bltn (v := .ty "tuple") (u := .type "tuple") rfl T.m_tuple (by decide +kernel) rfl) pa_nil)))))))
      (pss_cons (ps_if (PW.pt (pw_or (pt_cmpR op_ne (pe_callB call_isi rfl T.m_isinstance (by decide +kernel) (pa_cons (pv 0) (pa_cons (pe_bltn (v := .ty "list") (u := .type "list") rfl T.m_list (by decide +kernel) rfl) pa_nil))) (pe_callB call_isi rfl T.m_isinstance (by decide +kernel) (pa_cons (pv 1) (pa_cons (pe_bltn (v := .ty "list") (u := .type "list") rfl T.m_list (by decide +kernel) rfl) pa_nil))) (nomark _)) (pw_or (pt_cmpR op_ne (pe_callB call_isi rfl T.m_isinstance (by decide +kernel) (pa_cons (pv 0) (pa_cons (pe_bltn (v := .ty "tuple") (u := .type "tuple") rfl T.m_tuple (by decide +kernel) rfl) pa_nil))) (pe_callB call_isi rfl T.m_isinstance (by decide +kernel) (pa_cons (pv 1) (pa_cons (pe_bltn (v := .ty "tuple") (u := .type "tuple") rfl T.m_tuple (by decide +kernel) rfl) pa_nil))) (nomark _)) (pw_or1 (pt_cmpR op_ne (pe_callB call_len rfl T.m_len (by decide +kernel) (pa_cons (pv 0) pa_nil)) (pe_callB call_len rfl T.m_len (by decide +kernel) (pa_cons (pv 1) pa_nil)) (nomark _))))))
        (pss_one (ps_ret pe_bl))
        pss_nil)
      (pss_cons (ps_forR (passes_of rfl) heat rfl T.m_range (pa_cons (pe_callB call_len rfl T.m_len (by decide +kernel) (pa_cons (pv 1) pa_nil)) pa_nil) (pg_name (i := 2) nd rfl (Or.inl rfl))
        (pss_one (ps_if (pt_not (pt_val (pn_g g heat (Nat.le_refl _) takes0N rfl (pa_cons (pe_ix (ix_list.or ix_tup) (pv 0) (pv 2) (fun _ _ => rfl)) (pa_cons (pe_ix (ix_list.or ix_tup) (pv 1) (pv 2) (fun _ _ => rfl)) pa_nil)))))
          (pss_one (ps_ret pe_bl))
          pss_nil)))
      (pss_one (ps_ret pe_bl))))
      pss_nil)
    (pss_one (ps_ret (pe_and (pe_cmpR op_isN (pv 1) pe_non (nomark _)) (pe_one (pe_cmpR op_isN (pv 0) pe_non (nomark _)))))))))), ?_⟩
    rcases hl with ⟨rfl, hfl⟩ | ⟨l, a, b, xs, ys, rfl, rfl, sx, sy, hlen, hsz, hall⟩
    · cases x with
      | non =>
        have ty : TyX K H .non (.type "NoneType") := .base .non
        refine ⟨_, rfl, _, _, _, _, false, rfl, .ty _, ty, rfl, _, rfl, ?_⟩
        refine iteF (nxt ?_)
        refine ⟨_, rfl, _, _, _, _, false, rfl, .ty _, ty, rfl, _, rfl, ?_⟩
        refine iteF (nxt ?_)
        refine ⟨_, rfl, _, _, _, _, false, rfl, .ty _, ty, rfl, _, rfl, ?_⟩
        refine iteF (nxt ?_)
        refine ⟨_, rfl, _, _, _, _, false, rfl, .ty _, ty, rfl, _, rfl, ?_⟩
        refine iteF ?_
        refine ⟨_, rfl, _, _, _, _, false, rfl, .ty _, ty, rfl, _, rfl, ?_⟩
        refine iteF (nxt ?_)
        refine ⟨_, rfl, rfl, _, rfl, ?_⟩
        rw [decide_eq_true rfl]
        refine iteT ?_
        refine ⟨_, rfl, rfl, ?_⟩
        rw [decide_eq_true rfl]
        exact k
      | bl z =>
        have ty : TyX K H (.bl z) (.type "bool") := .base (.bl z)
        refine ⟨_, rfl, _, _, _, _, true, rfl, .ty _, ty, rfl, _, rfl, ?_⟩
        refine iteT ?_
        refine ⟨_, rfl, _, _, _, _, true, rfl, .ty _, ty, rfl, ?_⟩
        refine ⟨_, rfl, iteT ⟨_, rfl, _, rfl, rfl, ?_⟩⟩
        rw [decide_eq_true rfl]
        exact k
      | int z =>
        have ty : TyX K H (.int z) (.type "int") := .base (.int z)
        refine ⟨_, rfl, _, _, _, _, false, rfl, .ty _, ty, rfl, _, rfl, ?_⟩
        refine iteF (nxt ?_)
        refine ⟨_, rfl, _, _, _, _, true, rfl, .ty _, ty, rfl, _, rfl, ?_⟩
        refine iteT ?_
        refine ⟨_, rfl, _, _, _, _, true, rfl, .ty _, ty, rfl, ?_⟩
        refine ⟨_, rfl, iteT ⟨_, rfl, _, _, _, _, false, rfl, .ty _, ty, rfl, _, rfl, _, rfl, iteT ⟨_, rfl, _, rfl, rfl, ?_⟩⟩⟩
        rw [decide_eq_true rfl]
        exact k
      | str z =>
        have ty : TyX K H (.str z) (.type "str") := .base (.str z)
        refine ⟨_, rfl, _, _, _, _, false, rfl, .ty _, ty, rfl, _, rfl, ?_⟩
        refine iteF (nxt ?_)
        refine ⟨_, rfl, _, _, _, _, false, rfl, .ty _, ty, rfl, _, rfl, ?_⟩
        refine iteF (nxt ?_)
        refine ⟨_, rfl, _, _, _, _, true, rfl, .ty _, ty, rfl, _, rfl, ?_⟩
        refine iteT ?_
        refine ⟨_, rfl, _, _, _, _, true, rfl, .ty _, ty, rfl, ?_⟩
        refine ⟨_, rfl, iteT ⟨_, rfl, _, rfl, rfl, ?_⟩⟩
        rw [decide_eq_true rfl]
        exact k
      | _ => exact absurd (show false = true from hfl) Bool.false_ne_true
    · have no : ∀ (T : String) (c : Addr), (T = "bool" ∨ T = "int" ∨ T = "str") → PySem.W.kitOne K (tyN l) (.type T) = some false := fun T c hT => by
        rcases hT with rfl | rfl | rfl <;> cases l <;> rfl
      have isL : PySem.W.kitOne K (tyN l) (.type "list") = some l := by cases l <;> rfl
      have isT : PySem.W.kitOne K (tyN l) (.type "tuple") = some (!l) := by cases l <;> rfl
      have lenV : ∀ {c : Addr} {zs : List V}, SqX K H l c zs → LenV K (.ref c) H zs.length := fun {c zs} h => by
        rcases h.sq with h | h
        · exact .inl ⟨_, h, rfl⟩
        · exact .inr ⟨_, h, rfl⟩
      have dl : ∀ c : Bool, (!decide (V.bl c = V.bl c)) = false := fun c => by rw [decide_eq_true rfl]; rfl
      refine ⟨_, rfl, _, _, _, _, false, rfl, .ty _, sy.ty, no "bool" b (.inl rfl), _, rfl, ?_⟩
      refine iteF (nxt ?_)
      refine ⟨_, rfl, _, _, _, _, false, rfl, .ty _, sy.ty, no "int" b (.inr (.inl rfl)), _, rfl, ?_⟩
      refine iteF (nxt ?_)
      refine ⟨_, rfl, _, _, _, _, false, rfl, .ty _, sy.ty, no "str" b (.inr (.inr rfl)), _, rfl, ?_⟩
      refine iteF (nxt ?_)
      with_reducible conv => whnf
      refine tif ?_
      refine tor_t l (fun R r => ⟨_, rfl, _, _, _, _, l, rfl, .ty _, sy.ty, isL, _, rfl, r⟩) (fun R r => ⟨_, rfl, _, _, _, _, !l, rfl, .ty _, sy.ty, isT, _, rfl, r⟩) (iteT ?_)
      refine ⟨_, rfl, _, _, _, _, l, rfl, .ty _, sx.ty, isL, _, rfl, _, _, _, _, l, rfl, .ty _, sy.ty, isL, rfl, _, rfl, ?_⟩
      rw [dl]
      refine iteF ?_
      refine ⟨_, rfl, _, _, _, _, !l, rfl, .ty _, sx.ty, isT, _, rfl, _, _, _, _, !l, rfl, .ty _, sy.ty, isT, rfl, _, rfl, ?_⟩
      rw [dl]
      refine iteF ?_
      refine ⟨_, rfl, _, _, rfl, lenV sx, _, rfl, _, _, rfl, lenV sy, rfl, _, rfl, ?_⟩
      rw [hlen, decide_eq_true rfl]
      refine iteF (nxt ?_)
      refine ⟨_, rfl, _, _, rfl, lenV sy, _, rfl, by omega, by omega, for_range (n := ys.length) (fun i σ H' => ∃ (y : Option V), σ = [some (.ref a), some (.ref b), y] ∧ H' = H) ⟨_, rfl, rfl⟩ ?_ ?_⟩
      · rintro i σ H' hi ⟨y, rfl, rfl⟩
        have e2 := List.getElem?_eq_getElem hi
        have e1 := List.getElem?_eq_getElem (show i < xs.length by omega)
        refine ⟨_, rfl, _, rfl, sx.ix e1 ⟨_, rfl, _, rfl, sy.ix e2 ⟨_, _, rfl, hall i _ _ e1 e2, _, rfl, ?_⟩⟩⟩
        refine iteF (nxt ?_)
        exact ⟨_, rfl, rfl⟩
      · rintro σ H' ⟨y, rfl, rfl⟩
        exact k
end
end K00
/-! part E00 -/
set_option Elab.async false
set_option linter.all false
set_option maxRecDepth 100000
set_option maxHeartbeats 4000000
namespace K00
open PySem L2 GX
structure TxtC (mg : Str → Option Value) (ca : Nat → Addr) : Prop where
  g_BadNumber : mg "BadNumber" = some (.ref (ca 0))
  g_BadName : mg "BadName" = some (.ref (ca 1))
  g_BadSum : mg "BadSum" = some (.ref (ca 2))
  g_BadTable : mg "BadTable" = some (.ref (ca 3))
  g_BadDeed : mg "BadDeed" = some (.ref (ca 4))
  g_BadBook : mg "BadBook" = some (.ref (ca 5))
  g_BadPattern : mg "BadPattern" = some (.ref (ca 6))
  g_BadTorus : mg "BadTorus" = some (.ref (ca 7))
  g_BadGate : mg "BadGate" = some (.ref (ca 8))
  g_BadRule : mg "BadRule" = some (.ref (ca 9))
  g_BadCharge : mg "BadCharge" = some (.ref (ca 10))
  g_BadScript : mg "BadScript" = some (.ref (ca 11))
  g_Clashing : mg "Clashing" = some (.ref (ca 12))
  g_Unlike : mg "Unlike" = some (.ref (ca 13))
  g_NotTight : mg "NotTight" = some (.ref (ca 14))
  g_NotRule : mg "NotRule" = some (.ref (ca 15))
  g_NotFitting : mg "NotFitting" = some (.ref (ca 16))
  g_TooMany : mg "TooMany" = some (.ref (ca 17))
  g_NoSuch : mg "NoSuch" = some (.ref (ca 18))
  g_Ended : mg "Ended" = some (.ref (ca 19))
  g_Malformed : mg "Malformed" = some (.ref (ca 20))
  g_Refused : mg "Refused" = some (.ref (ca 21))
structure Row where
  tag : Str
  flds : List Str
  above : List Str
  at_ : Nat
deriving DecidableEq
def rows : List Row := [⟨"BadNumber", ["value"], ["Malformed", "ValueError"], 0⟩, ⟨"BadName", ["name"], ["Malformed", "ValueError"], 1⟩, ⟨"BadSum", ["term"], ["Malformed", "ValueError"], 2⟩, ⟨"BadTable", ["row"], ["Malformed", "ValueError"], 3⟩, ⟨"BadDeed", ["at"], ["Malformed", "ValueError"], 4⟩, ⟨"BadBook", ["line"], ["Malformed", "ValueError"], 5⟩, ⟨"BadPattern", ["at"], ["Malformed", "ValueError"], 6⟩, ⟨"BadTorus", ["at"], ["Malformed", "ValueError"], 7⟩, ⟨"BadGate", ["line"], ["Malformed", "ValueError"], 8⟩, ⟨"BadRule", ["line"], ["Malformed", "ValueError"], 9⟩, ⟨"BadCharge", ["length"], ["Malformed", "ValueError"], 10⟩, ⟨"BadScript", ["line"], ["Malformed", "ValueError"], 11⟩, ⟨"Clashing", ["first", "second"], ["Refused", "ValueError"], 12⟩, ⟨"Unlike", ["what"], ["Refused", "ValueError"], 13⟩, ⟨"NotTight", ["kind"], ["Refused", "ValueError"], 14⟩, ⟨"NotRule", ["row"], ["Refused", "ValueError"], 15⟩, ⟨"NotFitting", ["what"], ["Refused", "ValueError"], 16⟩, ⟨"TooMany", ["what", "size"], ["Refused", "ValueError"], 17⟩, ⟨"NoSuch", ["name"], ["LookupError"], 18⟩, ⟨"Ended", ["what"], ["RuntimeError"], 19⟩]
def marks (ca : Nat → Addr) : List (Str × V × Value) := [("BadNumber", .ref (ca 0), .ref (ca 0)), ("BadName", .ref (ca 1), .ref (ca 1)), ("BadSum", .ref (ca 2), .ref (ca 2)), ("BadTable", .ref (ca 3), .ref (ca 3)), ("BadDeed", .ref (ca 4), .ref (ca 4)), ("BadBook", .ref (ca 5), .ref (ca 5)), ("BadPattern", .ref (ca 6), .ref (ca 6)), ("BadTorus", .ref (ca 7), .ref (ca 7)), ("BadGate", .ref (ca 8), .ref (ca 8)), ("BadRule", .ref (ca 9), .ref (ca 9)), ("BadCharge", .ref (ca 10), .ref (ca 10)), ("BadScript", .ref (ca 11), .ref (ca 11)), ("Clashing", .ref (ca 12), .ref (ca 12)), ("Unlike", .ref (ca 13), .ref (ca 13)), ("NotTight", .ref (ca 14), .ref (ca 14)), ("NotRule", .ref (ca 15), .ref (ca 15)), ("NotFitting", .ref (ca 16), .ref (ca 16)), ("TooMany", .ref (ca 17), .ref (ca 17)), ("NoSuch", .ref (ca 18), .ref (ca 18)), ("Ended", .ref (ca 19), .ref (ca 19)), ("Malformed", .ref (ca 20), .ref (ca 20)), ("Refused", .ref (ca 21), .ref (ca 21)), ("ValueError", .ty "ValueError", .type "ValueError"), ("LookupError", .ty "LookupError", .type "LookupError"), ("KeyError", .ty "KeyError", .type "KeyError"), ("IndexError", .ty "IndexError", .type "IndexError"), ("RuntimeError", .ty "RuntimeError", .type "RuntimeError")]
def markN : List Str := ["BadNumber", "BadName", "BadSum", "BadTable", "BadDeed", "BadBook", "BadPattern", "BadTorus", "BadGate", "BadRule", "BadCharge", "BadScript", "Clashing", "Unlike", "NotTight", "NotRule", "NotFitting", "TooMany", "NoSuch", "Ended", "Malformed", "Refused", "ValueError", "LookupError", "KeyError", "IndexError", "RuntimeError"]
theorem marks_n (ca : Nat → Addr) : (marks ca).map (·.1) = markN := rfl
def Row.is (r : Row) (n : Str) : Bool := decide (n ∈ r.tag :: r.above)
theorem rows_marks : ∀ r ∈ rows, markN.filter r.is = r.tag :: r.above := by decide +kernel
/-- what is known of an exception class of this row -/
structure ClsE (K : PySem.W.Frag) (ca : Nat → Addr) (D : Addr) (r : Row) : Prop where
  xk : ExK K D
  no : ∀ f ∈ r.flds, PySem.W.findIn K (.ref D) f = some none
  ks : ∀ m ∈ marks ca, PySem.W.kitOne K (.ref D) m.2.2 = some (r.is m.1)
def spClasses (K : PySem.W.Frag) (ca : Nat → Addr) : SpG := fun o vs H Q _ => ∃ (a D d : Addr) (fs : List (Str × V)) (r : Row), vs = [.ref a] ∧ r ∈ rows ∧ ClsE K ca D r ∧ ExIn o H a D d fs ∧
  ∀ p H', Same H H' → H p = none → H' p = some (.lst ((r.tag :: r.above).map V.str)) → Q (.ref p) H'
def tMark (K : PySem.W.Frag) (o : Ho) (nm : Str) (c : V) : TE := tTup (tCons (tC (.str nm)) (tCons (tCB (rIsG K o) (tCons (tVar 0) (tCons (tC c) tNil))) tNil))
def tMarks (K : PySem.W.Frag) (o : Ho) : List (Str × V × Value) → TA
  | [] => tNil
  | m :: r => tCons (tMark K o m.1 m.2.1) (tMarks K o r)
/-- the marks that were laid -/
def Laid (f : Str → Bool) (ns : List Str) (ps : List Addr) (H : Hp) : Prop := ps.length = ns.length ∧ ∀ (i : Nat) p n, ps[i]? = some p → ns[i]? = some n → H p = some (.tup [.str n, .bl (f n)])
theorem marks_clsV (ca : Nat → Addr) : ∀ m ∈ marks ca, ClsV m.2.1 m.2.2 := by
  intro m hm
  simp only [marks, List.mem_cons, List.mem_nil_iff, or_false] at hm
  rcases hm with rfl | rfl | rfl | rfl | rfl | rfl | rfl | rfl | rfl | rfl | rfl | rfl | rfl | rfl | rfl | rfl | rfl | rfl | rfl | rfl | rfl | rfl | rfl | rfl | rfl | rfl | rfl <;> first | exact .own _ | exact .ty _
theorem tMarks_read {K : PySem.W.Frag} {o : Ho} {σ : L2.St} {a D d : Addr} {fs : List (Str × V)} {f : Str → Bool} (T : ExK K D) (hσ : σ[0]? = some (some (.ref a))) : ∀ (cs : List (Str × V × Value)) (H : Hp) (Q : List V → Hp → Prop), ExIn o H a D d fs →
    (∀ m ∈ cs, ClsV m.2.1 m.2.2 ∧ PySem.W.kitOne K (.ref D) m.2.2 = some (f m.1)) → (∀ (ps : List Addr) H', Same H H' → Laid f (cs.map (·.1)) ps H' → Q (ps.map V.ref) H') → tMarks K o cs σ H Q
  | [], H, Q, _, _, k => k [] H (Same.refl H) ⟨rfl, fun i p n h _ => by cases h⟩
  | m :: cs, H, Q, e, hm, k => by
    refine ⟨_, hσ, a, D, d, fs, _, _, _, rfl, T, e, (hm m List.mem_cons_self).1, (hm m List.mem_cons_self).2, by show 2 ≤ sizeLine; decide, fun p np => ?_⟩
    have s1 : ∀ o, Same H (upd H p o) := fun o => Same.put np
    refine tMarks_read T hσ cs _ _ (e.same (s1 _)) (fun m' h' => hm m' (List.mem_cons_of_mem _ h')) fun ps H' s2 L => ?_
    refine k (p :: ps) H' ((s1 _).trans s2) ⟨by rw [List.length_cons, L.1]; rfl, fun i q n h1 h2 => ?_⟩
    cases i with
    | zero =>
      cases h1
      cases h2
      exact s2 _ _ upd_same
    | succ i => exact L.2 i q n h1 h2
section
variable {P : Program} {w : World} {K : PySem.W.Frag} {mg : Str → Option Value} {base : Heap} {PR : Addr} {ca : Nat → Addr} {f : Addr} {fd : FuncData}
theorem lst_start {ta : TA} {g : TG} {u : TS} {D : Ends} {σ : L2.St} {H : Hp} (h : ta σ H fun xs H1 => xs.length ≤ sizeLine ∧ ∀ p, H1 p = none → g (.ref p) σ (upd H1 p (.lst xs)) (u D)) : tSeq (tAsg (tLst ta) g) u D σ H := h
theorem Same.keepD {H H' : Hp} {D : Addr} {o : HO} (s : Same H H') (n : H D = none) : Same H (upd H' D o) := fun c u e => by rw [upd_ne (ne_of_none e n)]; exact s c u e
theorem tyes {σ : L2.St} {H : Hp} {Q : Bool → Hp → Prop} (h : Q true H) : tYes σ H Q := h
theorem ok_classes (F : Fun K "_law_classes" "_law_classes" s_law_classes f fd) (T : Txt K mg PR) (TF : TxtC mg ca) : FnG P w K mg base 1 f fd ["error"] (spClasses K ca) := by
  obtain ⟨oc, od, kV, doc, pm, an, cdv, ct, osl, rfl, lk, hcd⟩ := F.ex
  refine fn_ofG lk hcd sc_law_classes (fun o vs H Q E h => ?_) fun A outer s H vs Q E o heat h => ?_
  · obtain ⟨a, D, d, fs, r, rfl, _⟩ := h
    rfl
  · obtain ⟨a, D, d, fs, r, rfl, hr, C, e, k⟩ := h
    have nd := sc_law_classes.nd
    refine ⟨_, (pss_cons (ps_set (i := 1) nd rfl (Or.inl rfl) (pe_lst (show PA _ _ (tMarks K o (marks ca)) from (pa_cons (pe_tup (pa_cons pe_str (pa_cons (pe_callB (call_isG heat) rfl T.m_isinstance (by decide +kernel) (pa_cons (pv 0) (pa_cons (pe_glob (v := V.ref _) rfl TF.g_BadNumber rfl) pa_nil))) pa_nil))) (pa_cons (pe_tup (pa_cons pe_str (pa_cons (pe_callB (call_isG heat) rfl T.m_isinstance (by decide +kernel) (pa_cons (pv 0) (pa_cons (pe_glob (v := V.ref _) rfl TF.g_BadName rfl) pa_nil))) pa_nil))) (pa_cons (pe_tup (pa_cons pe_str (pa_cons (pe_callB (call_isG heat) rfl T.m_isinstance (by decide +kernel) (pa_cons (pv 0) (pa_cons (pe_glob (v := V.ref _) rfl TF.g_BadSum rfl) pa_nil))) pa_nil))) (pa_cons (pe_tup (pa_cons pe_str (pa_cons (pe_callB (call_isG heat) rfl T.m_isinstance (by decide +kernel) (pa_cons (pv 0) (pa_cons (pe_glob (v := V.ref _) rfl TF.g_BadTable rfl) pa_nil))) pa_nil))) (pa_cons (pe_tup (pa_cons pe_str (pa_cons (pe_callB (call_isG heat) rfl T.m_isinstance (by decide +kernel) (pa_cons (pv 0) (pa_cons (pe_glob (v := V.ref _) rfl TF.g_BadDeed rfl) pa_nil))) pa_nil))) (pa_cons (pe_tup (pa_cons pe_str (pa_cons (pe_callB (call_isG heat) rfl T.m_isinstance (by decide +kernel) (pa_cons (pv 0) (pa_cons (pe_glob (v := V.ref _) rfl TF.g_BadBook rfl) pa_nil))) pa_nil))) (pa_cons (pe_tup (pa_cons pe_str (pa_cons (pe_callB (call_isG heat) rfl T.m_isinstance (by decide +kernel) (pa_cons (pv 0) (pa_cons (pe_glob (v := V.ref _) rfl TF.g_BadPattern rfl) pa_nil))) pa_nil))) (pa_cons (pe_tup (pa_cons pe_str (pa_cons (pe_callB (call_isG heat) rfl T.m_isinstance (by decide +kernel) (pa_cons (pv 0) (pa_cons (pe_glob (v := V.ref _) rfl TF.g_BadTorus rfl) pa_nil))) pa_nil))) (pa_cons (pe_tup (pa_cons pe_str (pa_cons (pe_callB (call_isG heat) rfl T.m_isinstance (by decide +kernel) (pa_cons (pv 0) (pa_cons (pe_glob (v := V.ref _) rfl TF.g_BadGate rfl) pa_nil))) pa_nil))) (pa_cons (pe_tup (pa_cons pe_str (pa_cons (pe_callB (call_isG heat) rfl T.m_isinstance (by decide +kernel) (pa_cons (pv 0) (pa_cons (pe_glob (v := V.ref _) rfl TF.g_BadRule rfl) pa_nil))) pa_nil))) (pa_cons (pe_tup (pa_cons pe_str (pa_cons (pe_callB (call_isG heat) rfl T.m_isinstance (by decide +kernel) (pa_cons (pv 0) (pa_cons (pe_glob (v := V.ref _) rfl TF.g_BadCharge rfl) pa_nil))) pa_nil))) (pa_cons (pe_tup (pa_cons pe_str (pa_cons (pe_callB (call_isG heat) rfl T.m_isinstance (by decide +kernel) (pa_cons (pv 0) (pa_cons (pe_glob (v := V.ref _) rfl TF.g_BadScript rfl) pa_nil))) pa_nil))) (pa_cons (pe_tup (pa_cons pe_str (pa_cons (pe_callB (call_isG heat) rfl T.m_isinstance (by decide +kernel) (pa_cons (pv 0) (pa_cons (pe_glob (v := V.ref _) rfl TF.g_Clashing rfl) pa_nil))) pa_nil))) (pa_cons (pe_tup (pa_cons pe_str (pa_cons (pe_callB (call_isG heat) rfl T.m_isinstance (by decide +kernel) (pa_cons (pv 0) (pa_cons (pe_glob (v := V.ref _) rfl TF.g_Unlike rfl) pa_nil))) pa_nil))) (pa_cons (pe_tup (pa_cons pe_str (pa_cons (pe_callB (call_isG heat) rfl T.m_isinstance (by decide +kernel) (pa_cons (pv 0) (pa_cons (pe_glob (v := V.ref _) rfl TF.g_NotTight rfl) pa_nil))) pa_nil))) (pa_cons (pe_tup (pa_cons pe_str (pa_cons (pe_callB (call_isG heat) rfl T.m_isinstance (by decide +kernel) (pa_cons (pv 0) (pa_cons (pe_glob (v := V.ref _) rfl TF.g_NotRule rfl) pa_nil))) pa_nil))) (pa_cons (pe_tup (pa_cons pe_str (pa_cons (pe_callB (call_isG heat) rfl T.m_isinstance (by decide +kernel) (pa_cons (pv 0) (pa_cons (pe_glob (v := V.ref _) rfl TF.g_NotFitting rfl) pa_nil))) pa_nil))) (pa_cons (pe_tup (pa_cons pe_str (pa_cons (pe_callB (call_isG heat) rfl T.m_isinstance (by decide +kernel) (pa_cons (pv 0) (pa_cons (pe_glob (v := V.ref _) rfl TF.g_TooMany rfl) pa_nil))) pa_nil))) (pa_cons (pe_tup (pa_cons pe_str (pa_cons (pe_callB (call_isG heat) rfl T.m_isinstance (by decide +kernel) (pa_cons (pv 0) (pa_cons (pe_glob (v := V.ref _) rfl TF.g_NoSuch rfl) pa_nil))) pa_nil))) (pa_cons (pe_tup (pa_cons pe_str (pa_cons (pe_callB (call_isG heat) rfl T.m_isinstance (by decide +kernel) (pa_cons (pv 0) (pa_cons (pe_glob (v := V.ref _) rfl TF.g_Ended rfl) pa_nil))) pa_nil))) (pa_cons (pe_tup (pa_cons pe_str (pa_cons (pe_callB (call_isG heat) rfl T.m_isinstance (by decide +kernel) (pa_cons (pv 0) (pa_cons (pe_glob (v := V.ref _) rfl TF.g_Malformed rfl) pa_nil))) pa_nil))) (pa_cons (pe_tup (pa_cons pe_str (pa_cons (pe_callB (call_isG heat) rfl T.m_isinstance (by decide +kernel) (pa_cons (pv 0) (pa_cons (pe_glob (v := V.ref _) rfl TF.g_Refused rfl) pa_nil))) pa_nil))) (pa_cons (pe_tup (pa_cons pe_str (pa_cons (pe_callB (call_isG heat) rfl T.m_isinstance (by decide +kernel) (pa_cons (pv 0) (pa_cons (pe_bltn (v := .ty "ValueError") (u := .type "ValueError") rfl T.m_ValueError (by decide +kernel) rfl) pa_nil))) pa_nil))) (pa_cons (pe_tup (pa_cons pe_str (pa_cons (pe_callB (call_isG heat) rfl T.m_isinstance (by decide +kernel) (pa_cons (pv 0) (pa_cons (pe_bltn (v := .ty "LookupError") (u := .type "LookupError") rfl T.m_LookupError (by decide +kernel) rfl) pa_nil))) pa_nil))) (pa_cons (pe_tup (pa_cons pe_str (pa_cons (pe_callB (call_isG heat) rfl T.m_isinstance (by decide +kernel) (pa_cons (pv 0) (pa_cons (pe_bltn (v := .ty "KeyError") (u := .type "KeyError") rfl T.m_KeyError (by decide +kernel) rfl) pa_nil))) pa_nil))) (pa_cons (pe_tup (pa_cons pe_str (pa_cons (pe_callB (call_isG heat) rfl T.m_isinstance (by decide +kernel) (pa_cons (pv 0) (pa_cons (pe_bltn (v := .ty "IndexError") (u := .type "IndexError") rfl T.m_IndexError (by decide +kernel) rfl) pa_nil))) pa_nil))) (pa_cons (pe_tup (pa_cons pe_str (pa_cons (pe_callB (call_isG heat) rfl T.m_isinstance (by decide +kernel) (pa_cons (pv 0) (pa_cons (pe_bltn (v := .ty "RuntimeError") (u := .type "RuntimeError") rfl T.m_RuntimeError (by decide +kernel) rfl) pa_nil))) pa_nil))) pa_nil))))))))))))))))))))))))))))))
    (pss_one (ps_ret (pe_lcG (own := [("tag", 2), ("yes", 3)]) (g := gTup K 2 (gCons (gName 2) (gCons (gName 3) gNil))) (tt := _) heat nd (pv 1) (blkOk_by (own := [("tag", 2), ("yes", 3)]) (N := ["error", "marks", "tag", "yes"]) (sc := defScope s_law_classes) (by decide +kernel)) (fun _ _ _ _ _ => (pg_tupG (Heat.blk heat) (pgs_cons (pg_name (i := 2) nd rfl (Or.inl rfl)) (pgs_cons (pg_name (i := 3) nd rfl (Or.inl rfl)) pgs_nil)))) (fun _ _ _ _ _ => (pts_one (pt_val (pv 3)))) (fun _ _ _ _ _ => (pv 2)))))), ?_⟩
    refine lst_start ?_
    refine tMarks_read (f := r.is) (cs := marks ca) C.xk rfl H _ e (fun m hm => ⟨marks_clsV ca m hm, C.ks m hm⟩) fun ps H1 s1 L => ?_
    refine ⟨by rw [List.length_map, L.1]; show 27 ≤ sizeLine; decide, fun p np => ?_⟩
    refine gnm ?_
    with_reducible conv => whnf
    have s2 := s1.trans (Same.put (o := .lst (ps.map V.ref)) np)
    refine ⟨_, rfl, p, rfl, ⟨_, SqL.of upd_same⟩, fun D1 nD => ?_⟩
    have hp1 : ∀ o, (upd (upd H1 p (.lst (ps.map V.ref))) D1 o) p = some (.lst (ps.map V.ref)) := fun o => (Same.put nD) _ _ upd_same
    refine lc_list (K := K) (a := p) (xs := ps.map V.ref) (fun i H' => Same (upd H1 p (.lst (ps.map V.ref))) H' ∧ H' D1 = some (.lst (((markN.take i).filter r.is).map V.str))) ⟨Same.put nD, upd_same⟩ (fun i H' _ ⟨s3, _⟩ => SqL.of (s3 _ _ upd_same)) ?_ ?_
    · rintro i x H' hx ⟨s3, hD⟩
      obtain ⟨q, hq, rfl⟩ : ∃ q, ps[i]? = some q ∧ x = V.ref q := by
        rw [List.getElem?_map] at hx
        cases e : ps[i]? with
        | none => rw [e] at hx; cases hx
        | some z => rw [e] at hx; exact ⟨z, rfl, (Option.some.inj hx).symm⟩
      have hi := (List.getElem?_eq_some_iff.mp hq).1
      have hm27 : markN.length = 27 := rfl
      have hi2 : i < markN.length := by rw [← marks_n ca, ← L.1]; exact hi
      obtain ⟨n, hn⟩ : ∃ n, markN[i]? = some n := ⟨_, List.getElem?_eq_getElem hi2⟩
      have hH := L.2 i q n hq (by rw [marks_n ca]; exact hn)
      refine ⟨q, _, rfl, SqT.of (s3 _ _ ((Same.put np) _ _ hH)), rfl, _, _, rfl, _, _, rfl, rfl, rfl, _, rfl, _, rfl, ?_⟩
      have tk : (markN.take (i + 1)).filter r.is = (markN.take i).filter r.is ++ (if r.is n = true then [n] else []) := by
        rw [List.take_add_one, hn, List.filter_append]
        by_cases hc : r.is n = true
        · rw [if_pos hc]; simp [hc]
        · rw [if_neg hc]; simp [hc]
      refine ite2 (fun hc => ?_) (fun hc => ?_)
      · rw [if_pos hc] at tk
        refine ⟨_, rfl, _, hD, ?_, Same.keepD s3 nD, ?_⟩
        · rw [List.length_map]
          exact Nat.lt_of_le_of_lt (Nat.le_trans (List.length_filter_le _ _) (List.length_take_le _ _)) (Nat.lt_of_lt_of_le (by omega : _ < 1000) (by decide))
        · rw [upd_same, tk, List.map_append]
          rfl
      · rw [if_neg hc, List.append_nil] at tk
        exact ⟨s3, by rw [tk]; exact hD⟩
    · rintro H' ⟨s3, hD⟩
      rw [List.length_map, L.1, marks_n ca, List.take_length, rows_marks r hr] at hD
      exact k D1 H' (s2.trans s3) (s2.free nD) hD
end
end K00
/-! part F00 -/
set_option Elab.async false
set_option linter.all false
set_option maxRecDepth 100000
set_option maxHeartbeats 4000000
namespace K00
open PySem L2 GX
def S3 (a b c : Str) : List V := [.str a, .str b, .str c]
def L1 : List V := [.str "BadDeed", .str "BadPattern", .str "BadTorus"]
def L2' : List V := [.str "BadBook", .str "BadGate", .str "BadRule", .str "BadScript"]
def L3 : List V := [.str "BadTable", .str "NotRule"]
def L4 : List V := [.str "Unlike", .str "NotFitting", .str "Ended"]
def L5 : List V := [.str "BadName", .str "NoSuch"]
def LR : List V := [.str "Clashing", .str "Unlike", .str "NotTight", .str "NotRule", .str "NotFitting", .str "TooMany"]
def isS (r : Row) (s : Str) : Bool := decide (V.str r.tag = V.str s)
theorem f1 : ∀ r ∈ rows, inV (.str r.tag) L1 = true → r.flds = (["at"] : List Str) := by decide +kernel
theorem f2 : ∀ r ∈ rows, inV (.str r.tag) L2' = true → r.flds = (["line"] : List Str) := by decide +kernel
theorem f3 : ∀ r ∈ rows, inV (.str r.tag) L3 = true → r.flds = (["row"] : List Str) := by decide +kernel
theorem f4 : ∀ r ∈ rows, inV (.str r.tag) L4 = true → r.flds = (["what"] : List Str) := by decide +kernel
theorem f5 : ∀ r ∈ rows, inV (.str r.tag) L5 = true → r.flds = (["name"] : List Str) := by decide +kernel
theorem f6 : ∀ r ∈ rows, isS r "Clashing" = true → r.flds = (["first", "second"] : List Str) := by decide +kernel
theorem f7 : ∀ r ∈ rows, isS r "TooMany" = true → r.flds = (["what", "size"] : List Str) := by decide +kernel
theorem f8 : ∀ r ∈ rows, isS r "BadNumber" = true → r.flds = (["value"] : List Str) := by decide +kernel
theorem f9 : ∀ r ∈ rows, isS r "BadSum" = true → r.flds = (["term"] : List Str) := by decide +kernel
theorem f10 : ∀ r ∈ rows, isS r "NotTight" = true → r.flds = (["kind"] : List Str) := by decide +kernel
theorem f11 : ∀ r ∈ rows, isS r "BadCharge" = true → r.flds = (["length"] : List Str) := by decide +kernel
theorem f12 : ∀ r ∈ rows, (inV (.str r.tag) L1 || inV (.str r.tag) L2' || inV (.str r.tag) L3 || inV (.str r.tag) L4 || inV (.str r.tag) L5 || isS r "Clashing" || isS r "TooMany" || isS r "BadNumber" || isS r "BadSum" || isS r "NotTight" || isS r "BadCharge") = true := by decide +kernel
def A0 (r : Row) : List Str := if isS r "NoSuch" = true then ["LookupError"] else if isS r "Ended" = true then ["RuntimeError"] else ["Malformed", "ValueError"]
theorem fa : ∀ r ∈ rows, r.above = if inV (.str r.tag) LR = true then (["Refused", "ValueError"] : List Str) else A0 r := by decide +kernel
theorem fcut : ∀ r ∈ rows, cutV ((r.tag :: r.above).map V.str) (some 1) none = r.above.map V.str := by decide +kernel
theorem feq : ∀ r ∈ rows, SeqAt.shaped (.list (r.above.map PyData.str)) = true ∧ PyData.eqv (.list (r.above.map PyData.str)) (.list (r.above.map PyData.str)) = true := by decide +kernel
theorem flen : ∀ r ∈ rows, r.flds.length ≤ 2 := by decide +kernel
theorem dp_strs {K : PySem.W.Frag} {H : Hp} : ∀ ss : List Str, DpAll K H (ss.map V.str) (ss.map PyData.str)
  | [] => .nil
  | s :: ss => .cons (.str s) (dp_strs ss)
/-- the fields of the exception, in their order -/
def spParts (K : PySem.W.Frag) (ca : Nat → Addr) : SpG := fun o vs H Q _ => ∃ (a D d : Addr) (fs : List (Str × V)) (r : Row) (us : List V), vs = [.ref a] ∧ r ∈ rows ∧ ClsE K ca D r ∧ ExIn o H a D d fs ∧ r.flds.map (fun f => fs.lookup f) = us.map some ∧
  ∀ p H', Same H H' → H p = none → H' p = some (.lst (.str r.tag :: us)) → Q (.ref p) H'
section
variable {P : Program} {w : World} {K : PySem.W.Frag} {mg : Str → Option Value} {base : Heap} {PR : Addr} {ca : Nat → Addr} {f : Addr} {fd : FuncData}
theorem one_fld {fs : List (Str × V)} {us : List V} {f : Str} (h : ([f] : List Str).map (fun f => fs.lookup f) = us.map some) : ∃ u, us = [u] ∧ fs.lookup f = some u := by
  match us, h with
  | [u], h => exact ⟨u, rfl, (List.cons.inj h).1⟩
  | [], h => cases h
  | _ :: _ :: _, h => cases (List.cons.inj h).2
theorem two_fld {fs : List (Str × V)} {us : List V} {f g : Str} (h : ([f, g] : List Str).map (fun f => fs.lookup f) = us.map some) : ∃ u v, us = [u, v] ∧ fs.lookup f = some u ∧ fs.lookup g = some v := by
  match us, h with
  | [u, v], h => exact ⟨u, v, rfl, (List.cons.inj h).1, (List.cons.inj (List.cons.inj h).2).1⟩
  | [], h => cases h
  | [_], h => cases (List.cons.inj h).2
  | _ :: _ :: _ :: _, h => cases (List.cons.inj (List.cons.inj h).2).2
theorem ok_parts (F : Fun K "_law_parts_of" "_law_parts_of" s_law_parts_of f fd) (T : Txt K mg PR) (TF : TxtC mg ca) (g_law_classes : CalG P w K mg base 1 "_law_classes" 1 (spClasses K ca)) : FnG P w K mg base 2 f fd ["error"] (spParts K ca) := by
  obtain ⟨oc, od, kV, doc, pm, an, cdv, ct, osl, rfl, lk, hcd⟩ := F.ex
  refine fn_ofG lk hcd sc_law_parts_of (fun o vs H Q E h => ?_) fun A outer s H vs Q E o heat h => ?_
  · obtain ⟨a, D, d, fs, r, us, rfl, _⟩ := h
    rfl
  · obtain ⟨a, D, d, fs, r, us, rfl, hr, C, e, hfs, k⟩ := h
    have nd := sc_law_parts_of.nd
    refine ⟨_, (pss_cons (ps_set (i := 1) nd rfl (Or.inl rfl) (pn_g g_law_classes heat (by omega) takes0N rfl (pa_cons (pv 0) pa_nil)))
    (pss_cons (ps_set (i := 2) nd rfl (Or.inl rfl) (pe_ix ix_list (pv 1) pe_int (fun _ _ => rfl)))
    (pss_cons (ps_if (pt_cmpR op_in_seq (pv 2) (pe_lst (pa_cons pe_str (pa_cons pe_str (pa_cons pe_str pa_nil)))) rfl)
      (pss_one (ps_set (i := 3) nd rfl (Or.inl rfl) (pe_lst (pa_cons (pe_xG heat (pv 0)) pa_nil))))
      (pss_one (ps_if (pt_cmpR op_in_seq (pv 2) (pe_lst (pa_cons pe_str (pa_cons pe_str (pa_cons pe_str (pa_cons pe_str pa_nil))))) rfl)
        (pss_one (ps_set (i := 3) nd rfl (Or.inl rfl) (pe_lst (pa_cons (pe_xG heat (pv 0)) pa_nil))))
        (pss_one (ps_if (pt_cmpR op_in_seq (pv 2) (pe_lst (pa_cons pe_str (pa_cons pe_str pa_nil))) rfl)
          (pss_one (ps_set (i := 3) nd rfl (Or.inl rfl) (pe_lst (pa_cons (pe_xG heat (pv 0)) pa_nil))))
          (pss_one (ps_if (pt_cmpR op_in_seq (pv 2) (pe_lst (pa_cons pe_str (pa_cons pe_str (pa_cons pe_str pa_nil)))) rfl)
            (pss_one (ps_set (i := 3) nd rfl (Or.inl rfl) (pe_lst (pa_cons (pe_xG heat (pv 0)) pa_nil))))
            (pss_one (ps_if (pt_cmpR op_in_seq (pv 2) (pe_lst (pa_cons pe_str (pa_cons pe_str pa_nil))) rfl)
              (pss_one (ps_set (i := 3) nd rfl (Or.inl rfl) (pe_lst (pa_cons (pe_xG heat (pv 0)) pa_nil))))
              (pss_one (ps_if (pt_cmpR op_eq (pv 2) pe_str (nomark _))
                (pss_one (ps_set (i := 3) nd rfl (Or.inl rfl) (pe_lst (pa_cons (pe_xG heat (pv 0)) (pa_cons (pe_xG heat (pv 0)) pa_nil)))))
                (pss_one (ps_if (pt_cmpR op_eq (pv 2) pe_str (nomark _))
                  (pss_one (ps_set (i := 3) nd rfl (Or.inl rfl) (pe_lst (pa_cons (pe_xG heat (pv 0)) (pa_cons (pe_xG heat (pv 0)) pa_nil)))))
                  (pss_one (ps_if (pt_cmpR op_eq (pv 2) pe_str (nomark _))
                    (pss_one (ps_set (i := 3) nd rfl (Or.inl rfl) (pe_lst (pa_cons (pe_xG heat (pv 0)) pa_nil))))
                    (pss_one (ps_if (pt_cmpR op_eq (pv 2) pe_str (nomark _))
                      (pss_one (ps_set (i := 3) nd rfl (Or.inl rfl) (pe_lst (pa_cons (pe_xG heat (pv 0)) pa_nil))))
                      (pss_one (ps_set (i := 3) nd rfl (Or.inl rfl) (pe_ifExp (pt_cmpR op_eq (pv 2) pe_str (nomark _)) (pe_lst (pa_cons (pe_xG heat (pv 0)) pa_nil)) (pe_ifExp (pt_cmpR op_eq (pv 2) pe_str (nomark _)) (pe_lst (pa_cons (pe_xG heat (pv 0)) pa_nil)) (pe_lst (pa_cons pe_str pa_nil)))))))))))))))))))))))
    (pss_cons (ps_set (i := 4) nd rfl (Or.inl rfl) (pe_ifExp (pt_cmpR op_eq (pv 2) pe_str (nomark _)) (pe_lst (pa_cons pe_str pa_nil)) (pe_ifExp (pt_cmpR op_eq (pv 2) pe_str (nomark _)) (pe_lst (pa_cons pe_str pa_nil)) (pe_lst (pa_cons pe_str (pa_cons pe_str pa_nil))))))
    (pss_cons (ps_if (pt_cmpR op_in_seq (pv 2) (pe_lst (pa_cons pe_str (pa_cons pe_str (pa_cons pe_str (pa_cons pe_str (pa_cons pe_str (pa_cons pe_str pa_nil))))))) rfl)
      (pss_one (ps_set (i := 4) nd rfl (Or.inl rfl) (pe_lst (pa_cons pe_str (pa_cons pe_str pa_nil)))))
      pss_nil)
    (pss_one (ps_ret (pe_ifExp (pt_cmpR (op_eqD heat.units) (pe_slice sl_list (pv 1) (po_some pe_int) po_none) (pv 4) (nomark _)) (pe_op op_cat (pe_lst (pa_cons (pv 2) pa_nil)) (pv 3)) (pe_lst (pa_cons pe_str pa_nil)))))))))), ?_⟩
    refine ⟨_, rfl, a, D, d, fs, r, rfl, hr, C, e, fun p1 H1 s1 n1 hp1 => ?_⟩
    refine gnm ?_
    refine ⟨_, rfl, p1, _, _, _, rfl, rfl, SqL.of hp1, atI_nat (j := 0) rfl, ?_⟩
    refine gnm ?_
    with_reducible conv => whnf
    refine seq_cut (fun σ H' => ∃ q x y, σ = [some (.ref a), some (.ref p1), some (.str r.tag), some (.ref q), y] ∧ x = us ∧ H' q = some (.lst us) ∧ Same H1 H') ?_ fun tail => ?_
    · rintro σ H3 ⟨q, x, y, rfl, -, hq, s3⟩
      have hp3 := s3 _ _ hp1
      refine seq_cut (fun σ H' => ∃ t, σ = [some (.ref a), some (.ref p1), some (.str r.tag), some (.ref q), some (.ref t)] ∧ H' t = some (.lst ((A0 r).map V.str)) ∧ Same H3 H') ?_ fun tail2 => ?_
      · rintro σ H4 ⟨t, rfl, ht, s4⟩
        refine seq_cut (fun σ H' => ∃ t, σ = [some (.ref a), some (.ref p1), some (.str r.tag), some (.ref q), some (.ref t)] ∧ H' t = some (.lst (r.above.map V.str)) ∧ Same H3 H') ?_ fun tail3 => ?_
        · rintro σ H5 ⟨t, rfl, ht, s5⟩
          have hp5 := s5 _ _ hp3
          refine ⟨_, rfl, _, rfl, p1, _, rfl, SqL.of hp5, fun c nc => ?_⟩
          rw [fcut r hr] at *
          have sc : ∀ o, Same H5 (upd H5 c o) := fun o => Same.put nc
          refine ⟨_, rfl, _, _, .lst (SqL.of upd_same) (dp_strs r.above), .lst (SqL.of ((sc _) _ _ ht)) (dp_strs r.above), (feq r hr).1, (feq r hr).1, _, rfl, ?_⟩
          refine ite2 (fun _ => ?_) (fun h => absurd (feq r hr).2 h)
          refine ⟨_, rfl, by show 1 ≤ sizeLine; decide, fun l nl => ⟨_, rfl, l, q, _, _, rfl, rfl, upd_same, (Same.put nl) _ _ ((sc _) _ _ (s5 _ _ hq)), ?_, fun L nL => ?_⟩⟩
          · have l1 : r.flds.length = us.length := by
              have z := congrArg List.length hfs
              rw [List.length_map, List.length_map] at z
              exact z
            have l2 := flen r hr
            exact Nat.le_trans (by simp only [List.length_cons, List.length_nil]; omega : _ ≤ 1000) (by decide)
          · refine k L _ ((s1.trans (s3.trans s5)).trans ((sc _).trans ((Same.put nl).trans (Same.put nL)))) ?_ upd_same
            exact ((s1.trans (s3.trans s5)).trans ((sc _).trans (Same.put nl))).free nL
        · refine ⟨_, rfl, by show 6 ≤ sizeLine; decide, fun t2 nt2 => ⟨t2, _, rfl, .inl (SqL.of upd_same), rfl, rfl, _, rfl, ?_⟩⟩
          have z2 : ∀ o, Same H4 (upd H4 t2 o) := fun o => Same.put nt2
          have fa' := fa r hr
          refine ite2 (fun h => ?_) (fun h => ?_)
          · refine ⟨by show 2 ≤ sizeLine; decide, fun t3 nt3 => ?_⟩
            refine gnm ?_
            with_reducible conv => whnf
            refine tail3 _ _ ⟨t3, rfl, ?_, (s4.trans (z2 _)).trans (Same.put nt3)⟩
            rw [if_pos (show inV (.str r.tag) LR = true from h)] at fa'
            rw [upd_same, fa']
            rfl
          · refine nxt ?_
            refine tail3 _ _ ⟨t, rfl, ?_, s4.trans (z2 _)⟩
            rw [if_neg (show ¬ inV (.str r.tag) LR = true from h)] at fa'
            rw [fa']
            exact (z2 _) _ _ ht
      · refine ⟨_, rfl, rfl, _, rfl, ?_⟩
        refine ite2 (fun h => ?_) (fun h => ?_)
        · refine ⟨by show 1 ≤ sizeLine; decide, fun t nt => ?_⟩
          refine gnm ?_
          with_reducible conv => whnf
          have e0 : A0 r = (["LookupError"] : List Str) := by unfold A0; exact if_pos h
          exact tail2 _ _ ⟨t, rfl, by rw [upd_same, e0]; rfl, Same.put nt⟩
        · refine ⟨_, rfl, rfl, _, rfl, ?_⟩
          refine ite2 (fun h2 => ?_) (fun h2 => ?_)
          · refine ⟨by show 1 ≤ sizeLine; decide, fun t nt => ?_⟩
            refine gnm ?_
            with_reducible conv => whnf
            have e0 : A0 r = (["RuntimeError"] : List Str) := by unfold A0; exact (if_neg h).trans (if_pos h2)
            exact tail2 _ _ ⟨t, rfl, by rw [upd_same, e0]; rfl, Same.put nt⟩
          · refine ⟨by show 2 ≤ sizeLine; decide, fun t nt => ?_⟩
            refine gnm ?_
            with_reducible conv => whnf
            have e0 : A0 r = (["Malformed", "ValueError"] : List Str) := by unfold A0; exact (if_neg h).trans (if_neg h2)
            exact tail2 _ _ ⟨t, rfl, by rw [upd_same, e0]; rfl, Same.put nt⟩
    · have one : ∀ n : Str, r.flds = [n] → ∃ u, us = [u] ∧ PySem.W.findIn K (.ref D) n = some none ∧ fs.lookup n = some u := fun n hn => by
        have hno := C.no n (by rw [hn]; exact List.mem_cons_self)
        rw [hn] at hfs
        obtain ⟨u, e, hl⟩ := one_fld hfs
        exact ⟨u, e, hno, hl⟩
      have two : ∀ n m : Str, r.flds = [n, m] → ∃ u v, us = [u, v] ∧ PySem.W.findIn K (.ref D) n = some none ∧ fs.lookup n = some u ∧ PySem.W.findIn K (.ref D) m = some none ∧ fs.lookup m = some v := fun n m hn => by
        have hno := C.no n (by rw [hn]; exact List.mem_cons_self)
        have hno2 := C.no m (by rw [hn]; exact List.mem_cons_of_mem _ List.mem_cons_self)
        rw [hn] at hfs
        obtain ⟨u, v, e, hl, hl2⟩ := two_fld hfs
        exact ⟨u, v, e, hno, hl, hno2, hl2⟩
      refine ⟨_, rfl, by show 3 ≤ sizeLine; decide, fun t1 nt1 => ⟨t1, _, rfl, .inl (SqL.of upd_same), rfl, rfl, _, rfl, ?_⟩⟩
      have z1 := (Same.refl H1).trans (Same.put (o := .lst L1) nt1)
      refine ite2 (fun h => ?_) (fun h1 => ?_)
      · obtain ⟨u, rfl, hno, hl⟩ := one "at" (f1 r hr h)
        refine ⟨_, rfl, a, D, d, fs, u, rfl, C.xk, hno, e.same (s1.trans z1), hl, by show 1 ≤ sizeLine; decide, fun q nq => ?_⟩
        refine gnm ?_
        with_reducible conv => whnf
        exact tail _ _ ⟨q, _, _, rfl, rfl, upd_same, z1.trans (Same.put nq)⟩
      refine ⟨_, rfl, by show 4 ≤ sizeLine; decide, fun t2 nt2 => ⟨t2, _, rfl, .inl (SqL.of upd_same), rfl, rfl, _, rfl, ?_⟩⟩
      have z2 := z1.trans (Same.put (o := .lst L2') nt2)
      refine ite2 (fun h => ?_) (fun h2 => ?_)
      · obtain ⟨u, rfl, hno, hl⟩ := one "line" (f2 r hr h)
        refine ⟨_, rfl, a, D, d, fs, u, rfl, C.xk, hno, e.same (s1.trans z2), hl, by show 1 ≤ sizeLine; decide, fun q nq => ?_⟩
        refine gnm ?_
        with_reducible conv => whnf
        exact tail _ _ ⟨q, _, _, rfl, rfl, upd_same, z2.trans (Same.put nq)⟩
      refine ⟨_, rfl, by show 2 ≤ sizeLine; decide, fun t3 nt3 => ⟨t3, _, rfl, .inl (SqL.of upd_same), rfl, rfl, _, rfl, ?_⟩⟩
      have z3 := z2.trans (Same.put (o := .lst L3) nt3)
      refine ite2 (fun h => ?_) (fun h3 => ?_)
      · obtain ⟨u, rfl, hno, hl⟩ := one "row" (f3 r hr h)
        refine ⟨_, rfl, a, D, d, fs, u, rfl, C.xk, hno, e.same (s1.trans z3), hl, by show 1 ≤ sizeLine; decide, fun q nq => ?_⟩
        refine gnm ?_
        with_reducible conv => whnf
        exact tail _ _ ⟨q, _, _, rfl, rfl, upd_same, z3.trans (Same.put nq)⟩
      refine ⟨_, rfl, by show 3 ≤ sizeLine; decide, fun t4 nt4 => ⟨t4, _, rfl, .inl (SqL.of upd_same), rfl, rfl, _, rfl, ?_⟩⟩
      have z4 := z3.trans (Same.put (o := .lst L4) nt4)
      refine ite2 (fun h => ?_) (fun h4 => ?_)
      · obtain ⟨u, rfl, hno, hl⟩ := one "what" (f4 r hr h)
        refine ⟨_, rfl, a, D, d, fs, u, rfl, C.xk, hno, e.same (s1.trans z4), hl, by show 1 ≤ sizeLine; decide, fun q nq => ?_⟩
        refine gnm ?_
        with_reducible conv => whnf
        exact tail _ _ ⟨q, _, _, rfl, rfl, upd_same, z4.trans (Same.put nq)⟩
      refine ⟨_, rfl, by show 2 ≤ sizeLine; decide, fun t5 nt5 => ⟨t5, _, rfl, .inl (SqL.of upd_same), rfl, rfl, _, rfl, ?_⟩⟩
      have z5 := z4.trans (Same.put (o := .lst L5) nt5)
      refine ite2 (fun h => ?_) (fun h5 => ?_)
      · obtain ⟨u, rfl, hno, hl⟩ := one "name" (f5 r hr h)
        refine ⟨_, rfl, a, D, d, fs, u, rfl, C.xk, hno, e.same (s1.trans z5), hl, by show 1 ≤ sizeLine; decide, fun q nq => ?_⟩
        refine gnm ?_
        with_reducible conv => whnf
        exact tail _ _ ⟨q, _, _, rfl, rfl, upd_same, z5.trans (Same.put nq)⟩
      refine ⟨_, rfl, rfl, _, rfl, ?_⟩
      refine ite2 (fun h => ?_) (fun h6 => ?_)
      · obtain ⟨u, v, rfl, hno, hl, hno2, hl2⟩ := two "first" "second" (f6 r hr h)
        refine ⟨_, rfl, a, D, d, fs, u, rfl, C.xk, hno, e.same (s1.trans z5), hl, _, rfl, a, D, d, fs, v, rfl, C.xk, hno2, e.same (s1.trans z5), hl2, by show 2 ≤ sizeLine; decide, fun q nq => ?_⟩
        refine gnm ?_
        with_reducible conv => whnf
        exact tail _ _ ⟨q, _, _, rfl, rfl, upd_same, z5.trans (Same.put nq)⟩
      refine ⟨_, rfl, rfl, _, rfl, ?_⟩
      refine ite2 (fun h => ?_) (fun h7 => ?_)
      · obtain ⟨u, v, rfl, hno, hl, hno2, hl2⟩ := two "what" "size" (f7 r hr h)
        refine ⟨_, rfl, a, D, d, fs, u, rfl, C.xk, hno, e.same (s1.trans z5), hl, _, rfl, a, D, d, fs, v, rfl, C.xk, hno2, e.same (s1.trans z5), hl2, by show 2 ≤ sizeLine; decide, fun q nq => ?_⟩
        refine gnm ?_
        with_reducible conv => whnf
        exact tail _ _ ⟨q, _, _, rfl, rfl, upd_same, z5.trans (Same.put nq)⟩
      refine ⟨_, rfl, rfl, _, rfl, ?_⟩
      refine ite2 (fun h => ?_) (fun h8 => ?_)
      · obtain ⟨u, rfl, hno, hl⟩ := one "value" (f8 r hr h)
        refine ⟨_, rfl, a, D, d, fs, u, rfl, C.xk, hno, e.same (s1.trans z5), hl, by show 1 ≤ sizeLine; decide, fun q nq => ?_⟩
        refine gnm ?_
        with_reducible conv => whnf
        exact tail _ _ ⟨q, _, _, rfl, rfl, upd_same, z5.trans (Same.put nq)⟩
      refine ⟨_, rfl, rfl, _, rfl, ?_⟩
      refine ite2 (fun h => ?_) (fun h9 => ?_)
      · obtain ⟨u, rfl, hno, hl⟩ := one "term" (f9 r hr h)
        refine ⟨_, rfl, a, D, d, fs, u, rfl, C.xk, hno, e.same (s1.trans z5), hl, by show 1 ≤ sizeLine; decide, fun q nq => ?_⟩
        refine gnm ?_
        with_reducible conv => whnf
        exact tail _ _ ⟨q, _, _, rfl, rfl, upd_same, z5.trans (Same.put nq)⟩
      refine ⟨_, rfl, rfl, _, rfl, ?_⟩
      refine ite2 (fun h => ?_) (fun h10 => ?_)
      · obtain ⟨u, rfl, hno, hl⟩ := one "kind" (f10 r hr h)
        refine ⟨_, rfl, a, D, d, fs, u, rfl, C.xk, hno, e.same (s1.trans z5), hl, by show 1 ≤ sizeLine; decide, fun q nq => ?_⟩
        refine gnm ?_
        with_reducible conv => whnf
        exact tail _ _ ⟨q, _, _, rfl, rfl, upd_same, z5.trans (Same.put nq)⟩
      refine ⟨_, rfl, rfl, _, rfl, ?_⟩
      refine ite2 (fun h => ?_) (fun h11 => ?_)
      · obtain ⟨u, rfl, hno, hl⟩ := one "length" (f11 r hr h)
        refine ⟨_, rfl, a, D, d, fs, u, rfl, C.xk, hno, e.same (s1.trans z5), hl, by show 1 ≤ sizeLine; decide, fun q nq => ?_⟩
        refine gnm ?_
        with_reducible conv => whnf
        exact tail _ _ ⟨q, _, _, rfl, rfl, upd_same, z5.trans (Same.put nq)⟩
      exfalso
      have g := f12 r hr
      simp only [Bool.or_eq_true] at g
      rcases g with ((((((((((g | g) | g) | g) | g) | g) | g) | g) | g) | g) | g)
      · exact h1 g
      · exact h2 g
      · exact h3 g
      · exact h4 g
      · exact h5 g
      · exact h6 g
      · exact h7 g
      · exact h8 g
      · exact h9 g
      · exact h10 g
      · exact h11 g
end
end K00
/-! part G00 -/
set_option Elab.async false
set_option linter.all false
set_option maxRecDepth 100000
set_option maxHeartbeats 4000000
namespace K00
open PySem L2 GX
/-- a thing that an error may bear -/
def Th (H : Hp) (u : V) : Prop := flatV u = true ∨ ∃ t, u = .ref t ∧ H t = some (.tup [.int 1, .int 2])
theorem Th.same {H H' : Hp} {u : V} (h : Th H u) (s : Same H H') : Th H' u := h.imp id fun ⟨t, e, q⟩ => ⟨t, e, s _ _ q⟩
theorem Th.like {K : PySem.W.Frag} {H : Hp} {u : V} {n : Nat} (h : Th H u) : LkV K H (n + 2) u u := by
  rcases h with h | ⟨t, rfl, q⟩
  · exact LkV.flat h
  · refine .inr ⟨false, t, t, _, _, rfl, rfl, .inl q, .inl q, rfl, by decide, fun i x y h1 h2 => ?_⟩
    rw [h1] at h2
    cases h2
    match i, h1 with
    | 0, h1 => cases h1; exact LkV.flat rfl
    | 1, h1 => cases h1; exact LkV.flat rfl
theorem like_list {K : PySem.W.Frag} {H : Hp} {n : Nat} {p q : Addr} {xs : List V} (hp : H p = some (.lst xs)) (hq : H q = some (.lst xs)) (hl : xs.length < 1000) (h : ∀ x ∈ xs, LkV K H n x x) : LkV K H (n + 1) (.ref p) (.ref q) := by
  refine .inr ⟨true, p, q, xs, xs, rfl, rfl, hp, hq, rfl, hl, fun i x y h1 h2 => ?_⟩
  rw [h1] at h2
  cases h2
  exact h x (List.mem_of_getElem? h1)
def spMade (K : PySem.W.Frag) (ca : Nat → Addr) : SpG := fun o vs H Q _ => ∃ (a D d q : Addr) (fs : List (Str × V)) (r : Row) (us : List V), vs = [.ref a, .ref q] ∧ r ∈ rows ∧ ClsE K ca D r ∧ ExIn o H a D d fs ∧ r.flds.map (fun f => fs.lookup f) = us.map some ∧
  H q = some (.lst (.str r.tag :: us)) ∧ (∀ u ∈ us, Th H u) ∧ ∀ H', Same H H' → Q (.bl true) H'
theorem us_len {r : Row} {fs : List (Str × V)} {us : List V} (hr : r ∈ rows) (h : r.flds.map (fun f => fs.lookup f) = us.map some) : us.length ≤ 2 := by
  have z := congrArg List.length h
  rw [List.length_map, List.length_map] at z
  have l2 := flen r hr
  omega
section
variable {P : Program} {w : World} {K : PySem.W.Frag} {mg : Str → Option Value} {base : Heap} {PR : Addr} {ca : Nat → Addr} {f : Addr} {fd : FuncData}
theorem ok_made (F : Fun K "_law_made_well" "_law_made_well" s_law_made_well f fd) (g_law_parts_of : CalG P w K mg base 2 "_law_parts_of" 1 (spParts K ca)) (g_law_like : CalG P w K mg base 3 "_law_like" 2 (spLike K 3)) : FnG P w K mg base 4 f fd ["e", "due"] (spMade K ca) := by
  obtain ⟨oc, od, kV, doc, pm, an, cdv, ct, osl, rfl, lk, hcd⟩ := F.ex
  refine fn_ofG lk hcd sc_law_made_well (fun o vs H Q E h => ?_) fun A outer s H vs Q E o heat h => ?_
  · obtain ⟨a, D, d, q, fs, r, us, rfl, _⟩ := h
    rfl
  · obtain ⟨a, D, d, q, fs, r, us, rfl, hr, C, e, hfs, hq, hth, k⟩ := h
    have nd := sc_law_made_well.nd
    refine ⟨_, (pss_one (ps_ret (pn_g g_law_like heat (by omega) takes0N rfl (pa_cons (pn_g g_law_parts_of heat (by omega) takes0N rfl (pa_cons (pv 0) pa_nil)) (pa_cons (pv 1) pa_nil))))), ?_⟩
    refine ⟨_, rfl, a, D, d, fs, r, us, rfl, hr, C, e, hfs, fun p1 H1 s1 n1 hp1 => ⟨_, rfl, _, _, rfl, ?_, k _ s1⟩⟩
    refine like_list hp1 (s1 _ _ hq) ?_ fun x hx => ?_
    · have l := us_len hr hfs
      simp only [List.length_cons]
      omega
    · rcases List.mem_cons.mp hx with rfl | hx
      · exact LkV.flat rfl
      · exact ((hth x hx).same s1).like
end
end K00
/-! part I00 -/
set_option Elab.async false
set_option linter.all false
set_option maxRecDepth 100000
set_option maxHeartbeats 4000000
namespace K00
open PySem L2 GX
def PL : List Int := [2, 3, 5, 7, 11, 13, 17, 19, 23, 29, 31]
structure TxtN (P : Program) (w : World) (K : PySem.W.Frag) (mg : Str → Option Value) (PR CN fN : Addr) : Prop where
  x_BadNumber : ExJs P K mg "ValueError" "ValueError.__new__" "ValueError.__init__" [.type "ValueError", .type "Exception", .type "BaseException", .type "object"] CN fN ["value"]
  r_BadNumber : ExR K mg "BadNumber" CN
  k_PRIMES : ∃ (o : Obj) (its : Array Value) (n : Nat), K.lookup PR = some o ∧ o.cls = .type "tuple" ∧ o.data = .seq its n ∧ its.size ≤ sizeLine ∧ Vals (PL.map V.int) its.toList
def vaF (n : Int) : List (Str × V) := [("value", .int n)]
theorem inPL (n : Int) : inV (.int n) (PL.map V.int) = decide (n ∈ PL) := by
  unfold inV
  rw [List.any_map, Bool.eq_iff_iff, List.any_eq_true, decide_eq_true_iff]
  constructor
  · rintro ⟨x, hx, h⟩
    have e : x = n := by simpa [eqV] using h
    rw [← e]
    exact hx
  · intro h
    exact ⟨n, h, by simp [eqV]⟩
theorem PL_pos {n : Int} (h : n ∈ PL) : 1 < n ∧ n < 32 := by
  simp only [PL, List.mem_cons, List.mem_nil_iff, or_false] at h
  omega
def spCheck (CN : Addr) : Sp := fun vs H Q E => ∃ n : Int, vs = [.int n] ∧ (n ∈ PL → Q (.int n) H) ∧ (n ∉ PL → ∀ d, H d = none → E (.ref CN) (some d) (upd H d (.xd (vaF n))))
def spReduced (CN : Addr) : Sp := fun vs H Q E => ∃ p n : Int, vs = [.int p, .int n] ∧ (p ∈ PL → Q (.int (n % p)) H) ∧ (p ∉ PL → ∀ d, H d = none → E (.ref CN) (some d) (upd H d (.xd (vaF p))))
/-- the inverse that is told -/
def invT (p n : Int) : Int := if n % p = 1 then 1 else pw p (n % p) (p - 2).toNat
def spInverse (CN : Addr) : Sp := fun vs H Q E => ∃ p n : Int, vs = [.int p, .int n] ∧ (p ∈ PL → n % p ≠ 0 → Q (.int (invT p n)) H) ∧ (p ∉ PL → ∀ d, H d = none → E (.ref CN) (some d) (upd H d (.xd (vaF p)))) ∧
  (p ∈ PL → n % p = 0 → ∀ d, H d = none → E (.ref CN) (some d) (upd H d (.xd (vaF n))))
section
variable {P : Program} {w : World} {K : PySem.W.Frag} {mg : Str → Option Value} {base : Heap} {PR CN fN : Addr} {f : Addr} {fd : FuncData}
theorem ok_check (F : Fun K "check_prime" "check_prime" s_check_prime f fd) (T : Txt K mg PR) (TE : TxtN P w K mg PR CN fN) : FnOk P w K mg base (L2N.CX P w) 1 f fd ["value"] (spCheck CN) := by
  obtain ⟨oc, od, kV, doc, pm, an, cdv, ct, osl, rfl, lk, hcd⟩ := F.ex
  refine fn_of lk hcd sc_check_prime (fun vs H Q E h => ?_) fun A outer s H vs Q E hr h => ?_
  · obtain ⟨n, rfl, _⟩ := h
    rfl
  · obtain ⟨n, rfl, kq, ke⟩ := h
    have nd := sc_check_prime.nd
    have tk := L2N.takes_of (X := cxOf (L2N.CX P w) P w K mg base ["value"] "check_prime" (defScope s_check_prime) f cdv A outer s H E) rfl rfl rfl rfl
    refine ⟨_, (pss_cons (ps_if (pt_cmpR op_notIn_seq (pv 0) (pe_glob (v := .ref PR) (u := .ref PR) rfl T.m_PRIMES rfl) rfl)
      (pss_one (L2N.ps_raise rfl tk (pmk_exJ PySem.F.excBase_ValueError PySem.W.kxs_ValueError PySem.F.store_ValueError TE.x_BadNumber TE.r_BadNumber hr (pa_cons (pv 0) pa_nil) rfl)))
      pss_nil)
    (pss_one (ps_ret (pv 0)))), ?_⟩
    refine ⟨_, rfl, PR, _, rfl, .inr (.inr TE.k_PRIMES), rfl, rfl, _, rfl, ?_⟩
    have e := inPL n
    refine ite2 (fun h => ?_) (fun h => ?_)
    · have h' : (!inV (.int n) (PL.map V.int)) = true := h
      rw [e] at h'
      exact ⟨_, rfl, rfl, ke (by simpa using h')⟩
    · have h' : ¬ (!inV (.int n) (PL.map V.int)) = true := h
      rw [e] at h'
      exact ⟨_, rfl, kq (by simpa using h')⟩
theorem ok_reduced (F : Fun K "reduced" "reduced" s_reduced f fd) (g_check_prime : CalN P w K mg base 1 "check_prime" 1 [] (sk (spCheck CN))) : FnOk P w K mg base (L2N.CX P w) 2 f fd ["prime", "value"] (spReduced CN) := by
  obtain ⟨oc, od, kV, doc, pm, an, cdv, ct, osl, rfl, lk, hcd⟩ := F.ex
  refine fn_of lk hcd sc_reduced (fun vs H Q E h => ?_) fun A outer s H vs Q E hr h => ?_
  · obtain ⟨p, n, rfl, _⟩ := h
    rfl
  · obtain ⟨p, n, rfl, kq, ke⟩ := h
    have nd := sc_reduced.nd
    have tk := L2N.takes_of (X := cxOf (L2N.CX P w) P w K mg base ["prime", "value"] "reduced" (defScope s_reduced) f cdv A outer s H E) rfl rfl rfl rfl
    refine ⟨_, (pss_cons (ps_expr (pn_f g_check_prime hr (by decide) tk rfl (pa_cons (pv 0) pa_nil)))
    (pss_one (ps_ret (pe_op op_mod (pv 1) (pv 0))))), ?_⟩
    refine ⟨_, rfl, rfl, p, rfl, fun hp => ?_, fun hp d hd => ke hp d hd⟩
    have := PL_pos hp
    exact ⟨_, rfl, _, rfl, _, _, rfl, rfl, by omega, kq hp⟩
theorem ok_inverse (F : Fun K "inverse_number" "inverse_number" s_inverse_number f fd) (T : Txt K mg PR) (TE : TxtN P w K mg PR CN fN) (g_reduced : CalN P w K mg base 2 "reduced" 2 [] (sk (spReduced CN))) : FnOk P w K mg base (L2N.CX P w) 3 f fd ["prime", "value"] (spInverse CN) := by
  obtain ⟨oc, od, kV, doc, pm, an, cdv, ct, osl, rfl, lk, hcd⟩ := F.ex
  refine fn_of lk hcd sc_inverse_number (fun vs H Q E h => ?_) fun A outer s H vs Q E hr h => ?_
  · obtain ⟨p, n, rfl, _⟩ := h
    rfl
  · obtain ⟨p, n, rfl, kq, ke, kz⟩ := h
    have nd := sc_inverse_number.nd
    have tk := L2N.takes_of (X := cxOf (L2N.CX P w) P w K mg base ["prime", "value", "number", "inverse", "_"] "inverse_number" (defScope s_inverse_number) f cdv A outer s H E) rfl rfl rfl rfl
    refine ⟨_, (pss_cons (ps_set (i := 2) nd rfl (Or.inl rfl) (pn_f g_reduced hr (by decide) tk rfl (pa_cons (pv 0) (pa_cons (pv 1) pa_nil))))
    (pss_cons (ps_if (pt_cmpR op_eq (pv 2) pe_int (nomark _))
      (pss_one (L2N.ps_raise rfl tk (pmk_exJ PySem.F.excBase_ValueError PySem.W.kxs_ValueError PySem.F.store_ValueError TE.x_BadNumber TE.r_BadNumber hr (pa_cons (pv 1) pa_nil) rfl)))
      pss_nil)
    (pss_cons (ps_set (i := 3) nd rfl (Or.inl rfl) pe_int)
    (pss_cons (ps_if (pt_cmpR op_eq (pv 2) pe_int (nomark _))
      (pss_one (ps_ret (pv 3)))
      pss_nil)
    (pss_cons (ps_for (passes_of rfl) rfl (pi_range1 rfl T.m_range (pa_cons (pe_op op_sub (pv 0) pe_int) pa_nil)) (pg_name (i := 4) nd rfl (Or.inl rfl))
      (pss_one (ps_set (i := 3) nd rfl (Or.inl rfl) (pe_op op_mod (pe_op op_mul (pv 3) (pv 2)) (pv 0)))))
    (pss_one (ps_ret (pv 3)))))))), ?_⟩
    refine ⟨_, rfl, _, rfl, rfl, p, n, rfl, fun hp => ?_, fun hp d hd => ke hp d hd⟩
    refine gnm ?_
    have h1 := PL_pos hp
    have h2 := emod_lt n (show 0 < p by omega)
    refine ⟨_, rfl, rfl, _, rfl, ?_⟩
    refine ite2 (fun h => ?_) (fun h => ?_)
    · have h' : n % p = 0 := by simpa using h
      exact ⟨_, rfl, rfl, kz hp h'⟩
    · have h' : ¬ n % p = 0 := by simpa using h
      refine nxt ?_
      refine ⟨_, rfl, rfl, _, rfl, ?_⟩
      refine ite2 (fun h => ?_) (fun h => ?_)
      · have h3 : n % p = 1 := by simpa using h
        refine ⟨_, rfl, ?_⟩
        have z := kq hp h'
        unfold invT at z
        rw [if_pos h3] at z
        exact z
      · have h3 : ¬ n % p = 1 := by simpa using h
        refine nxt ?_
        refine ⟨_, rfl, _, _, rfl, rfl, p - 2, rfl, by omega, by omega, for_range (n := (p - 2).toNat) (fun i σ H' => ∃ (y : Option V), σ = [some (.int p), some (.int n), some (.int (n % p)), some (.int (pw p (n % p) i)), y] ∧ H' = H) ⟨_, rfl, rfl⟩ ?_ ?_⟩
        · rintro i σ H4 hi ⟨y, rfl, rfl⟩
          have z := pw_lt p (n % p) h1.1 i
          refine ⟨_, rfl, _, rfl, _, _, rfl, rfl, .inl ⟨by omega, by omega⟩, _, rfl, _, _, rfl, rfl, by omega, ?_⟩
          exact ⟨_, rfl, rfl⟩
        · rintro σ H4 ⟨y, rfl, rfl⟩
          have z := kq hp h'
          unfold invT at z
          rw [if_neg h3] at z
          exact ⟨_, rfl, z⟩
end
end K00
/-! part J00 -/
set_option Elab.async false
set_option linter.all false
set_option maxRecDepth 100000
set_option maxHeartbeats 4000000
namespace K00
open PySem L2 GX
def spNoPrime : Sp := fun vs H Q _ => ∃ (b : Addr) (n : Nat), vs = [.ref b] ∧ JarAt H b n ∧ n < 90000000 ∧ ∀ (r : Int) (H' : Hp), r ∉ PL → Kp b H H' → JarAt H' b (n + 30) → Q (.int r) H'
def spThing : Sp := fun vs H Q _ => ∃ (b : Addr) (n : Nat), vs = [.ref b] ∧ JarAt H b n ∧ n < 90000000 ∧ ∀ (u : V) (H' : Hp), Th H' u → Kp b H H' → JarAt H' b (n + 30) → Q u H'
theorem JarAt.neT {H : Hp} {b t : Addr} {n : Nat} {xs : List V} (B : JarAt H b n) (h : H t = some (.tup xs)) : t ≠ b := fun e => by
  obtain ⟨L, ns, i, c, l, s, cnt, h1, _⟩ := B.ex
  rw [e, h1] at h
  cases h
theorem absPL {n : Int} (h : n ∈ PL) : (if n < 0 then -n else n) ∈ PL := by
  have := PL_pos h
  rw [if_neg (by omega)]
  exact h
theorem negPL (n : Int) : 0 - (if n < 0 then -n else n) ∉ PL := fun h => by
  have := PL_pos h
  split at this <;> omega
section
variable {P : Program} {w : World} {K : PySem.W.Frag} {mg : Str → Option Value} {base : Heap} {PR : Addr} {f : Addr} {fd : FuncData}
theorem ok_noprime (F : Fun K "_law_no_prime" "_law_no_prime" s_law_no_prime f fd) (T : Txt K mg PR) (g_law_draw : CalN P w K mg base 1 "_law_draw" 2 [] (sk spDraw)) (g_law_pick : CalN P w K mg base 2 "_law_pick" 2 [] (sk (spPick K))) (g_law_big : CalN P w K mg base 2 "_law_big" 1 [] (sk spBig)) :
    FnOk P w K mg base CX0 3 f fd ["jar"] spNoPrime := by
  refine F.ok sc_law_no_prime (fun vs H Q E h => ?_) (fun cdv A outer s H vs Q E hr h => ?_)
  · obtain ⟨b, n, rfl, _⟩ := h
    rfl
  · obtain ⟨b, n, rfl, B, hn, k⟩ := h
    have nd := sc_law_no_prime.nd
    refine ⟨_, (pss_cons (ps_set (i := 1) nd rfl (Or.inl rfl) (pe_ifExp (pt_cmpR op_eq (pn_f g_law_draw hr (by decide) takes0N rfl (pa_cons (pv 0) (pa_cons pe_int pa_nil))) pe_int (nomark _)) (pn_f g_law_pick hr (by decide) takes0N rfl (pa_cons (pv 0) (pa_cons (pe_lst (pa_cons pe_int (pa_cons pe_int (pa_cons pe_int (pa_cons pe_int (pa_cons pe_int (pa_cons pe_int (pa_cons pe_int (pa_cons pe_int (pa_cons pe_int (pa_cons pe_int (pa_cons pe_int (pa_cons pe_int (pa_cons pe_int (pa_cons pe_int (pa_cons pe_int (pa_cons pe_int (pa_cons (pe_op op_sub (pe_op op_pow pe_int pe_int) pe_int) pa_nil)))))))))))))))))) pa_nil))) (pn_f g_law_big hr (by decide) takes0N rfl (pa_cons (pv 0) pa_nil))))
    (pss_one (ps_ret (pe_ifExp (PW.pt (pw_or (pt_cmpR op_in_seq (pe_callB call_abs rfl T.m_abs (by decide +kernel) (pa_cons (pv 1) pa_nil)) (pe_lst (pa_cons pe_int (pa_cons pe_int (pa_cons pe_int (pa_cons pe_int (pa_cons pe_int (pa_cons pe_int (pa_cons pe_int (pa_cons pe_int (pa_cons pe_int (pa_cons pe_int (pa_cons pe_int pa_nil)))))))))))) rfl) (pw_or1 (pt_cmpR op_eq (pn_f g_law_draw hr (by decide) takes0N rfl (pa_cons (pv 0) (pa_cons pe_int pa_nil))) pe_int (nomark _))))) (pe_op op_sub pe_int (pe_callB call_abs rfl T.m_abs (by decide +kernel) (pa_cons (pv 1) pa_nil))) (pv 1))))), ?_⟩
    refine seq_cut (fun σ H3 => ∃ z : Int, σ = [some (.ref b), some (.int z)] ∧ JarAt H3 b (n + 25) ∧ Kp b H H3) ?_ fun tail => ?_
    · rintro σ H3 ⟨z, rfl, B3, k3⟩
      refine ⟨_, rfl, z, rfl, by show 11 ≤ sizeLine; decide, fun t nt => ⟨t, _, rfl, .inl (SqL.of upd_same), rfl, rfl, _, rfl, ?_⟩⟩
      have B4 := B3.same (Same.put (o := .lst (PL.map V.int)) nt)
      have k4 : Kp b H (upd H3 t (.lst (PL.map V.int))) := k3.trans (Same.kp (Same.put nt))
      refine ite2 (fun h => ?_) (fun h => ?_)
      · exact ⟨_, rfl, z, rfl, _, _, rfl, rfl, k _ _ (negPL z) k4 (B4.mono (by omega))⟩
      · refine ⟨_, rfl, rfl, b, _, 5, rfl, B4, by omega, by decide, by decide, fun r5 H5 _ _ k5 B5 => ⟨rfl, _, rfl, ?_⟩⟩
        refine ite2 (fun h5 => ?_) (fun h5 => ?_)
        · exact ⟨_, rfl, z, rfl, _, _, rfl, rfl, k _ _ (negPL z) (k4.trans k5) (B5.mono (by omega))⟩
        · refine ⟨_, rfl, k _ _ (fun hz => h ?_) (k4.trans k5) (B5.mono (by omega))⟩
          have e := inPL (if z < 0 then -z else z)
          show inV (.int (if z < 0 then -z else z)) (PL.map V.int) = true
          rw [e]
          exact decide_eq_true (absPL hz)
    · refine ⟨_, rfl, rfl, b, n, 2, rfl, B, by omega, by decide, by decide, fun r1 H1 _ _ k1 B1 => ⟨rfl, _, rfl, ?_⟩⟩
      refine ite2 (fun h => ?_) (fun h => ?_)
      · refine ⟨_, rfl, _, _, rfl, rfl, ⟨by decide, by decide, by decide⟩, _, _, rfl, rfl, by show 17 ≤ sizeLine; decide, fun p np => ⟨rfl, b, p, n + 1, _, rfl, B1.same (Same.put np), by omega, upd_same, (B1.ne np).symm, by decide, by decide, fun x H2 hx k2 B2 => ?_⟩⟩
        obtain ⟨m, rfl⟩ : ∃ m : Int, x = .int m := by
          simp only [List.mem_cons, List.mem_nil_iff, or_false] at hx
          rcases hx with rfl | rfl | rfl | rfl | rfl | rfl | rfl | rfl | rfl | rfl | rfl | rfl | rfl | rfl | rfl | rfl | rfl <;> exact ⟨_, rfl⟩
        refine gnm ?_
        exact tail _ _ ⟨m, rfl, B2.mono (by omega), k1.trans (Kp.of_same np k2)⟩
      · refine ⟨_, rfl, rfl, b, n + 1, rfl, B1, by omega, fun r2 H2 k2 B2 => ?_⟩
        refine gnm ?_
        exact tail _ _ ⟨r2, rfl, B2.mono (by omega), k1.trans k2⟩
theorem ok_thing (F : Fun K "_law_drawn_thing" "_law_drawn_thing" s_law_drawn_thing f fd) (T : Txt K mg PR) (g_law_draw : CalN P w K mg base 1 "_law_draw" 2 [] (sk spDraw)) (g_law_pick : CalN P w K mg base 2 "_law_pick" 2 [] (sk (spPick K))) (g_law_big : CalN P w K mg base 2 "_law_big" 1 [] (sk spBig)) :
    FnOk P w K mg base CX0 3 f fd ["jar"] spThing := by
  refine F.ok sc_law_drawn_thing (fun vs H Q E h => ?_) (fun cdv A outer s H vs Q E hr h => ?_)
  · obtain ⟨b, n, rfl, _⟩ := h
    rfl
  · obtain ⟨b, n, rfl, B, hn, k⟩ := h
    have nd := sc_law_drawn_thing.nd
    refine ⟨_, (pss_one (ps_ret (pn_f g_law_pick hr (by decide) takes0N rfl (pa_cons (pv 0) (pa_cons (pe_lst (pa_cons (pn_f g_law_big hr (by decide) takes0N rfl (pa_cons (pv 0) pa_nil)) (pa_cons (pn_f g_law_draw hr (by decide) takes0N rfl (pa_cons (pv 0) (pa_cons pe_int pa_nil))) (pa_cons pe_str (pa_cons pe_str (pa_cons pe_str (pa_cons pe_non (pa_cons (pe_tup (pa_cons pe_int (pa_cons pe_int pa_nil))) (pa_cons pe_str (pa_cons (pe_op op_sub pe_int pe_int) pa_nil)))))))))) pa_nil))))), ?_⟩
    refine ⟨_, rfl, _, rfl, rfl, b, n, rfl, B, by omega, fun r1 H1 k1 B1 => ?_⟩
    refine ⟨_, rfl, rfl, b, _, 9, rfl, B1, by omega, by decide, by decide, fun r2 H2 _ _ k2 B2 => ?_⟩
    refine ⟨by show 2 ≤ sizeLine; decide, fun t nt => ⟨_, _, rfl, rfl, by show 9 ≤ sizeLine; decide, fun p np => ?_⟩⟩
    have B3 := B2.same (Same.put (o := .tup [.int 1, .int 2]) nt)
    refine ⟨rfl, b, p, _, _, rfl, B3.same (Same.put np), by omega, upd_same, (B3.ne np).symm, by show 0 < 9; decide, by show 9 < 1000; decide, fun x H4 hx k4 B4 => ?_⟩
    refine k x H4 ?_ ((k1.trans k2).trans (Kp.of_same nt (Kp.of_same np k4))) (B4.mono (by omega))
    simp only [List.mem_cons, List.mem_nil_iff, or_false] at hx
    rcases hx with rfl | rfl | rfl | rfl | rfl | rfl | rfl | rfl | rfl
    · exact .inl rfl
    · exact .inl rfl
    · exact .inl rfl
    · exact .inl rfl
    · exact .inl rfl
    · exact .inl rfl
    · refine .inr ⟨t, rfl, k4 _ _ ((Same.put np) _ _ upd_same) ?_⟩
      exact B3.neT upd_same
    · exact .inl rfl
    · exact .inl rfl
end
end K00
/-! part L00 -/
set_option Elab.async false
set_option linter.all false
set_option maxRecDepth 100000
set_option maxHeartbeats 4000000
namespace GX
open PySem PySem.Spec PyProof.Rows L2
section
variable {prog : Program} {w : World} {A : Around} {E : Value → Shared → Prop} {s : Shared}
theorem wpAny_len_body_raw {d : Addr} {es : Array DictEntry} {ep : Nat} {Q : Value → Shared → Prop} (hd : (d == sysModules) = false) (hm : s.heap.DictRaw d es ep) (hfit : (es.size : Int) < 2 ^ 63)
    (h : Q (.int es.size (s.toks + 1)) { s with toks := s.toks + 1 + 1 }) : wpAny (model prog w) A (Builtin.«len» ⟨[.ref d], []⟩) (fun fin s' => ∃ r, fin = .done (.ret r) ∧ Q r s') E s := by
  unfold Builtin.«len»
  refine wpAny_bind (m := oneArg "len" _) (wpAny_pure ?_)
  refine wpAny_bind (m := callSpecial? (.ref d) (Str.ofString "__len__")) (wpAny_callSpecial?_slot (name := Str.ofString "__len__") hm.typeIs F.slot_dict_len
    (call_meetsIn F.slot_dict_len hm.typeIs F.entry_dict_len (F.args_dict_len_1 _) (meets_dict_len_raw d hd) ⟨es, ep, hm, ?_⟩))
  show wpAny _ _ _ _ _ { s with toks := s.toks + 1 }
  refine wpAny_bind (wpAny_holding (wpAny_pure ?_))
  refine wpAny_bind (wpAny_letGo ?_)
  show wpAny _ _ (if ((es.size : Nat) : Int) < 0 then _ else _) _ _ _
  rw [if_neg (by omega)]
  show wpAny _ _ (if ((es.size : Nat) : Int) ≥ 2 ^ 63 then _ else _) _ _ _
  rw [if_neg (by omega)]
  exact wpAny_bind (wpAny_mkInt (wpAny_pure ⟨_, rfl, h⟩))
end
/-- len of a dict of the module -/
theorem call_lenKd {X : Cx} {d : Addr} {es : Array DictEntry} {n : Nat} (D : KDict X.K X.w d es n) : CallR X (.builtin "len") (fun xs H Q => xs = [.ref d] ∧ (es.size : Int) < 2 ^ 63 ∧ Q (.int ((es.size : Nat) : Int)) H) := by
  intro pins s σ H xs us Q I r h
  obtain ⟨rfl, hz, q⟩ := h
  obtain ⟨u, rfl, rx⟩ := vals1 r
  obtain rfl : u = .ref d := rx
  exact Calls.call_function_entry kind_len plain_len entry_len (args_len1 _) (wpAny_len_body_raw D.low ⟨_, I.kIn _ _ D.at_, ⟨rfl, rfl, rfl⟩, rfl⟩ hz ⟨.int _, H, I.tok _, ⟨_, rfl⟩, q⟩)
theorem pn_f0 {X : Cx} {k j : Nat} {sp : Sk} {W : WX} {x : Str} {p pos : Pos} (c : CalN X.prog X.w X.K X.mg X.base k x 0 [] sp) (hr : Room j X.A) (hj : k ≤ j) (tk : L2N.Takes X W) (hg : Gl X x) (hdb : (x == ("__debug__" : Str)) = false := by decide) :
    PE X (.Call (.Name x p) [] [] pos) (tF sp W tNil tNil) := by
  obtain ⟨f, h1, h2, c⟩ := c.ex
  exact pe_f0 c h1 h2 hr hj tk hg hdb
end GX
namespace K00
open PySem L2 GX
def bnds : List (Str × Int) := [("text", 60000), ("terms", 60), ("place", 40), ("cells", 24), ("window", 25), ("measure", 100), ("charges", 40), ("rounds", 200), ("kinds", 1000), ("maps", 30), ("sites", 144), ("wrap", 300), ("few", 20), ("most", 4), ("both", 24), ("gates", 60), ("deeds", 200)]
structure TxtB (w : World) (K : PySem.W.Frag) (mg : Str → Option Value) (DB : Addr) (es : Array DictEntry) (n : Nat) : Prop where
  m_BOUNDS : mg "BOUNDS" = some (.ref DB)
  kd : KDict K w DB es n
  size : es.size = 17
  at_ : ∀ b ∈ bnds, ∃ tk, PySem.W.nsIn K DB b.1 = some (some (.int b.2 tk))
def spBounds : Sp := fun vs H Q _ => vs = [] ∧ ∀ H', Same H H' → Q (.bl true) H'
def tPair (z : Str) (i : Int) : TE := tTup (tCons (tC (.str z)) (tCons (tC (.int i)) tNil))
def tPairs : List (Str × Int) → TA
  | [] => tNil
  | m :: r => tCons (tPair m.1 m.2) (tPairs r)
def LaidP (ns : List (Str × Int)) (ps : List Addr) (H : Hp) : Prop := ps.length = ns.length ∧ ∀ (i : Nat) p n, ps[i]? = some p → ns[i]? = some n → H p = some (.tup [.str n.1, .int n.2])
theorem tPairs_read {σ : L2.St} : ∀ (cs : List (Str × Int)) (H : Hp) (Q : List V → Hp → Prop), (∀ (ps : List Addr) H', Same H H' → LaidP cs ps H' → Q (ps.map V.ref) H') → tPairs cs σ H Q
  | [], H, Q, k => k [] H (Same.refl H) ⟨rfl, fun i p n h _ => by cases h⟩
  | m :: cs, H, Q, k => by
    refine ⟨by show 2 ≤ sizeLine; decide, fun p np => ?_⟩
    have s1 : ∀ o, Same H (upd H p o) := fun o => Same.put np
    refine tPairs_read cs _ _ fun ps H' s2 L => ?_
    refine k (p :: ps) H' ((s1 _).trans s2) ⟨by rw [List.length_cons, L.1]; rfl, fun i q n h1 h2 => ?_⟩
    cases i with
    | zero =>
      cases h1
      cases h2
      exact s2 _ _ upd_same
    | succ i => exact L.2 i q n h1 h2
section
variable {P : Program} {w : World} {K : PySem.W.Frag} {mg : Str → Option Value} {base : Heap} {PR DBOUNDS : Addr} {es : Array DictEntry} {dn : Nat} {f : Addr} {fd : FuncData}
theorem ok_bounds (F : Fun K "_law_bounds_told" "_law_bounds_told" s_law_bounds_told f fd) (T : Txt K mg PR) (TE : TxtB w K mg DBOUNDS es dn) (g_law_like : CalG P w K mg base 3 "_law_like" 2 (spLike K 3)) : FnOk P w K mg base (L2N.CX P w) 4 f fd [] spBounds := by
  obtain ⟨oc, od, kV, doc, pm, an, cdv, ct, osl, rfl, lk, hcd⟩ := F.ex
  refine fn_of lk hcd sc_law_bounds_told (fun vs H Q E h => ?_) fun A outer s H vs Q E hr h => ?_
  · obtain ⟨rfl, _⟩ := h
    rfl
  · obtain ⟨rfl, k⟩ := h
    have nd := sc_law_bounds_told.nd
    have KD := TE.kd
    have heat : Heat (cxOf (L2N.CX P w) P w K mg base ["due", "tag", "n"] "_law_bounds_told" (defScope s_law_bounds_told) f cdv A outer s H E) 3 none := .inl ⟨rfl, rfl, rfl, hr⟩
    refine ⟨_, (pss_cons (ps_set (i := 0) nd rfl (Or.inl rfl) (pe_lst (show PA _ _ (tPairs bnds) from (pa_cons (pe_tup (pa_cons pe_str (pa_cons pe_int pa_nil))) (pa_cons (pe_tup (pa_cons pe_str (pa_cons pe_int pa_nil))) (pa_cons (pe_tup (pa_cons pe_str (pa_cons pe_int pa_nil))) (pa_cons (pe_tup (pa_cons pe_str (pa_cons pe_int pa_nil))) (pa_cons (pe_tup (pa_cons pe_str (pa_cons pe_int pa_nil))) (pa_cons (pe_tup (pa_cons pe_str (pa_cons pe_int pa_nil))) (pa_cons (pe_tup (pa_cons pe_str (pa_cons pe_int pa_nil))) (pa_cons (pe_tup (pa_cons pe_str (pa_cons pe_int pa_nil))) (pa_cons (pe_tup (pa_cons pe_str (pa_cons pe_int pa_nil))) (pa_cons (pe_tup (pa_cons pe_str (pa_cons pe_int pa_nil))) (pa_cons (pe_tup (pa_cons pe_str (pa_cons pe_int pa_nil))) (pa_cons (pe_tup (pa_cons pe_str (pa_cons pe_int pa_nil))) (pa_cons (pe_tup (pa_cons pe_str (pa_cons pe_int pa_nil))) (pa_cons (pe_tup (pa_cons pe_str (pa_cons pe_int pa_nil))) (pa_cons (pe_tup (pa_cons pe_str (pa_cons pe_int pa_nil))) (pa_cons (pe_tup (pa_cons pe_str (pa_cons pe_int pa_nil))) (pa_cons (pe_tup (pa_cons pe_str (pa_cons pe_int pa_nil))) pa_nil))))))))))))))))))))
    (pss_cons (ps_if (PW.pt (pw_or (pt_not (pt_val (pe_callB call_isi rfl T.m_isinstance (by decide +kernel) (pa_cons (pe_glob (v := .ref DBOUNDS) (u := .ref DBOUNDS) rfl TE.m_BOUNDS rfl) (pa_cons (pe_bltn (v := .ty "dict") (u := .type "dict") rfl T.m_dict (by decide +kernel) rfl) pa_nil))))) (pw_or1 (pt_cmpR op_ne (pe_callB (call_lenKd KD) rfl T.m_len (by decide +kernel) (pa_cons (pe_glob (v := .ref DBOUNDS) (u := .ref DBOUNDS) rfl TE.m_BOUNDS rfl) pa_nil)) (pe_callB call_len rfl T.m_len (by decide +kernel) (pa_cons (pv 0) pa_nil)) (nomark _)))))
      (pss_one (ps_ret pe_bl))
      pss_nil)
    (pss_cons (ps_for (passes_of rfl) rfl (pi_list (pv 0)) (pg_tup rfl (pgs_cons (pg_name (i := 1) nd rfl (Or.inl rfl)) (pgs_cons (pg_name (i := 2) nd rfl (Or.inl rfl)) pgs_nil)))
      (pss_one (ps_if (PW.pt (pw_or (pt_cmpR (op_notIn_kd KD) (pv 1) (pe_glob (v := .ref DBOUNDS) (u := .ref DBOUNDS) rfl TE.m_BOUNDS rfl) rfl) (pw_or1 (pt_not (pt_val (pn_g g_law_like heat (by omega) takes0N rfl (pa_cons (pe_ix ix_kdict (pe_glob (v := .ref DBOUNDS) (u := .ref DBOUNDS) rfl TE.m_BOUNDS rfl) (pv 1) (fun _ _ => rfl)) (pa_cons (pv 2) pa_nil))))))))
        (pss_one (ps_ret pe_bl))
        pss_nil)))
    (pss_one (ps_ret pe_bl))))), ?_⟩
    refine lst_start ?_
    refine tPairs_read bnds H _ fun ps H1 s1 L => ?_
    refine ⟨by rw [List.length_map, L.1]; show 17 ≤ sizeLine; decide, fun p np => ?_⟩
    refine gnm ?_
    with_reducible conv => whnf
    have s2 : Same H1 (upd H1 p (.lst (ps.map V.ref))) := Same.put np
    refine ⟨_, _, _, _, true, rfl, .ty _, .kDict KD.at_ rfl, rfl, _, rfl, ?_⟩
    refine iteF ?_
    refine ⟨rfl, by rw [TE.size]; decide, _, rfl, _, _, rfl, .inl ⟨_, SqL.of upd_same, rfl⟩, rfl, _, rfl, ?_⟩
    have e17 : (!decide (V.int ((es.size : Nat) : Int) = V.int (((ps.map V.ref).length : Nat) : Int))) = false := by
      rw [TE.size, List.length_map, L.1]
      rfl
    rw [e17]
    refine iteF ?_
    refine nxt ?_
    refine ⟨_, rfl, p, rfl, ⟨_, SqL.of upd_same⟩, ?_⟩
    refine for_list (K := K) (a := p) (xs := ps.map V.ref) (fun i σ H' => ∃ x y, σ = [some (.ref p), x, y] ∧ Same (upd H1 p (.lst (ps.map V.ref))) H') ⟨_, _, rfl, Same.refl _⟩ (fun i σ H' _ ⟨_, _, _, s3⟩ => SqL.of (s3 _ _ upd_same)) ?_ ?_
    · rintro i x σ H' hx ⟨x1, y1, rfl, s3⟩
      obtain ⟨q, hq, rfl⟩ : ∃ q, ps[i]? = some q ∧ x = V.ref q := by
        rw [List.getElem?_map] at hx
        cases e : ps[i]? with
        | none => rw [e] at hx; cases hx
        | some z => rw [e] at hx; exact ⟨z, rfl, (Option.some.inj hx).symm⟩
      have hi := (List.getElem?_eq_some_iff.mp hq).1
      obtain ⟨b, hb⟩ : ∃ b, bnds[i]? = some b := ⟨_, List.getElem?_eq_getElem (by rw [← L.1]; exact hi)⟩
      have hH := L.2 i q b hq hb
      obtain ⟨tk, hk⟩ := TE.at_ b (List.mem_of_getElem? hb)
      refine ⟨q, _, rfl, SqT.of (s3 _ _ (s2 _ _ hH)), rfl, _, _, rfl, _, _, rfl, rfl, ?_⟩
      refine ⟨_, rfl, _, _, rfl, rfl, hk, _, rfl, ?_⟩
      refine iteF ?_
      refine ⟨_, rfl, DBOUNDS, _, .int b.2, rfl, rfl, ⟨_, _, _, KD.at_, KD.lit, hk, ⟨_, rfl⟩⟩, _, rfl, _, _, rfl, LkV.flat rfl, _, rfl, ?_⟩
      refine iteF ?_
      refine nxt ?_
      exact ⟨_, _, rfl, s3⟩
    · rintro σ H' ⟨x1, y1, rfl, s3⟩
      exact k H' ((s1.trans s2).trans s3)
end
end K00
/-! part M00 -/
set_option Elab.async false
set_option linter.all false
set_option maxRecDepth 100000
set_option maxHeartbeats 4000000
namespace K00
open PySem L2 GX
structure TxtX (P : Program) (K : PySem.W.Frag) (mg : Str → Option Value) (ca fa : Nat → Addr) : Prop where
  x_BadNumber : ExJs P K mg "ValueError" "ValueError.__new__" "ValueError.__init__" [.type "ValueError", .type "Exception", .type "BaseException", .type "object"] (ca 0) (fa 0) ["value"]
  r_BadNumber : ExR K mg "BadNumber" (ca 0)
  x_BadName : ExJs P K mg "ValueError" "ValueError.__new__" "ValueError.__init__" [.type "ValueError", .type "Exception", .type "BaseException", .type "object"] (ca 1) (fa 1) ["name"]
  r_BadName : ExR K mg "BadName" (ca 1)
  x_BadSum : ExJs P K mg "ValueError" "ValueError.__new__" "ValueError.__init__" [.type "ValueError", .type "Exception", .type "BaseException", .type "object"] (ca 2) (fa 2) ["term"]
  r_BadSum : ExR K mg "BadSum" (ca 2)
  x_BadTable : ExJs P K mg "ValueError" "ValueError.__new__" "ValueError.__init__" [.type "ValueError", .type "Exception", .type "BaseException", .type "object"] (ca 3) (fa 3) ["row"]
  r_BadTable : ExR K mg "BadTable" (ca 3)
  x_BadDeed : ExJs P K mg "ValueError" "ValueError.__new__" "ValueError.__init__" [.type "ValueError", .type "Exception", .type "BaseException", .type "object"] (ca 4) (fa 4) ["at"]
  r_BadDeed : ExR K mg "BadDeed" (ca 4)
  x_BadBook : ExJs P K mg "ValueError" "ValueError.__new__" "ValueError.__init__" [.type "ValueError", .type "Exception", .type "BaseException", .type "object"] (ca 5) (fa 5) ["line"]
  r_BadBook : ExR K mg "BadBook" (ca 5)
  x_BadPattern : ExJs P K mg "ValueError" "ValueError.__new__" "ValueError.__init__" [.type "ValueError", .type "Exception", .type "BaseException", .type "object"] (ca 6) (fa 6) ["at"]
  r_BadPattern : ExR K mg "BadPattern" (ca 6)
  x_BadTorus : ExJs P K mg "ValueError" "ValueError.__new__" "ValueError.__init__" [.type "ValueError", .type "Exception", .type "BaseException", .type "object"] (ca 7) (fa 7) ["at"]
  r_BadTorus : ExR K mg "BadTorus" (ca 7)
  x_BadGate : ExJs P K mg "ValueError" "ValueError.__new__" "ValueError.__init__" [.type "ValueError", .type "Exception", .type "BaseException", .type "object"] (ca 8) (fa 8) ["line"]
  r_BadGate : ExR K mg "BadGate" (ca 8)
  x_BadRule : ExJs P K mg "ValueError" "ValueError.__new__" "ValueError.__init__" [.type "ValueError", .type "Exception", .type "BaseException", .type "object"] (ca 9) (fa 9) ["line"]
  r_BadRule : ExR K mg "BadRule" (ca 9)
  x_BadCharge : ExJs P K mg "ValueError" "ValueError.__new__" "ValueError.__init__" [.type "ValueError", .type "Exception", .type "BaseException", .type "object"] (ca 10) (fa 10) ["length"]
  r_BadCharge : ExR K mg "BadCharge" (ca 10)
  x_BadScript : ExJs P K mg "ValueError" "ValueError.__new__" "ValueError.__init__" [.type "ValueError", .type "Exception", .type "BaseException", .type "object"] (ca 11) (fa 11) ["line"]
  r_BadScript : ExR K mg "BadScript" (ca 11)
  x_Clashing : ExJs P K mg "ValueError" "ValueError.__new__" "ValueError.__init__" [.type "ValueError", .type "Exception", .type "BaseException", .type "object"] (ca 12) (fa 12) ["first", "second"]
  r_Clashing : ExR K mg "Clashing" (ca 12)
  x_Unlike : ExJs P K mg "ValueError" "ValueError.__new__" "ValueError.__init__" [.type "ValueError", .type "Exception", .type "BaseException", .type "object"] (ca 13) (fa 13) ["what"]
  r_Unlike : ExR K mg "Unlike" (ca 13)
  x_NotTight : ExJs P K mg "ValueError" "ValueError.__new__" "ValueError.__init__" [.type "ValueError", .type "Exception", .type "BaseException", .type "object"] (ca 14) (fa 14) ["kind"]
  r_NotTight : ExR K mg "NotTight" (ca 14)
  x_NotRule : ExJs P K mg "ValueError" "ValueError.__new__" "ValueError.__init__" [.type "ValueError", .type "Exception", .type "BaseException", .type "object"] (ca 15) (fa 15) ["row"]
  r_NotRule : ExR K mg "NotRule" (ca 15)
  x_NotFitting : ExJs P K mg "ValueError" "ValueError.__new__" "ValueError.__init__" [.type "ValueError", .type "Exception", .type "BaseException", .type "object"] (ca 16) (fa 16) ["what"]
  r_NotFitting : ExR K mg "NotFitting" (ca 16)
  x_TooMany : ExJs P K mg "ValueError" "ValueError.__new__" "ValueError.__init__" [.type "ValueError", .type "Exception", .type "BaseException", .type "object"] (ca 17) (fa 17) ["what", "size"]
  r_TooMany : ExR K mg "TooMany" (ca 17)
  x_NoSuch : ExJs P K mg "LookupError" "LookupError.__new__" "LookupError.__init__" [.type "LookupError", .type "Exception", .type "BaseException", .type "object"] (ca 18) (fa 18) ["name"]
  r_NoSuch : ExR K mg "NoSuch" (ca 18)
  x_Ended : ExJs P K mg "RuntimeError" "RuntimeError.__new__" "RuntimeError.__init__" [.type "RuntimeError", .type "Exception", .type "BaseException", .type "object"] (ca 19) (fa 19) ["what"]
  r_Ended : ExR K mg "Ended" (ca 19)
def row (i : Nat) : Row := rows.getD i ⟨"", [], [], 0⟩
def items (ca : Nat → Addr) : List (Bool × Addr × Row) := [(false, ca 0, ⟨"BadNumber", ["value"], ["Malformed", "ValueError"], 0⟩), (true, ca 0, ⟨"BadNumber", ["value"], ["Malformed", "ValueError"], 0⟩), (false, ca 1, ⟨"BadName", ["name"], ["Malformed", "ValueError"], 1⟩), (true, ca 1, ⟨"BadName", ["name"], ["Malformed", "ValueError"], 1⟩), (false, ca 2, ⟨"BadSum", ["term"], ["Malformed", "ValueError"], 2⟩), (true, ca 2, ⟨"BadSum", ["term"], ["Malformed", "ValueError"], 2⟩), (false, ca 3, ⟨"BadTable", ["row"], ["Malformed", "ValueError"], 3⟩), (true, ca 3, ⟨"BadTable", ["row"], ["Malformed", "ValueError"], 3⟩), (false, ca 4, ⟨"BadDeed", ["at"], ["Malformed", "ValueError"], 4⟩), (true, ca 4, ⟨"BadDeed", ["at"], ["Malformed", "ValueError"], 4⟩), (false, ca 5, ⟨"BadBook", ["line"], ["Malformed", "ValueError"], 5⟩), (true, ca 5, ⟨"BadBook", ["line"], ["Malformed", "ValueError"], 5⟩), (false, ca 6, ⟨"BadPattern", ["at"], ["Malformed", "ValueError"], 6⟩), (true, ca 6, ⟨"BadPattern", ["at"], ["Malformed", "ValueError"], 6⟩), (false, ca 7, ⟨"BadTorus", ["at"], ["Malformed", "ValueError"], 7⟩), (true, ca 7, ⟨"BadTorus", ["at"], ["Malformed", "ValueError"], 7⟩), (false, ca 8, ⟨"BadGate", ["line"], ["Malformed", "ValueError"], 8⟩), (true, ca 8, ⟨"BadGate", ["line"], ["Malformed", "ValueError"], 8⟩), (false, ca 9, ⟨"BadRule", ["line"], ["Malformed", "ValueError"], 9⟩), (true, ca 9, ⟨"BadRule", ["line"], ["Malformed", "ValueError"], 9⟩), (false, ca 10, ⟨"BadCharge", ["length"], ["Malformed", "ValueError"], 10⟩), (true, ca 10, ⟨"BadCharge", ["length"], ["Malformed", "ValueError"], 10⟩), (false, ca 11, ⟨"BadScript", ["line"], ["Malformed", "ValueError"], 11⟩), (true, ca 11, ⟨"BadScript", ["line"], ["Malformed", "ValueError"], 11⟩), (false, ca 13, ⟨"Unlike", ["what"], ["Refused", "ValueError"], 13⟩), (true, ca 13, ⟨"Unlike", ["what"], ["Refused", "ValueError"], 13⟩), (false, ca 14, ⟨"NotTight", ["kind"], ["Refused", "ValueError"], 14⟩), (true, ca 14, ⟨"NotTight", ["kind"], ["Refused", "ValueError"], 14⟩), (false, ca 15, ⟨"NotRule", ["row"], ["Refused", "ValueError"], 15⟩), (true, ca 15, ⟨"NotRule", ["row"], ["Refused", "ValueError"], 15⟩), (false, ca 16, ⟨"NotFitting", ["what"], ["Refused", "ValueError"], 16⟩), (true, ca 16, ⟨"NotFitting", ["what"], ["Refused", "ValueError"], 16⟩), (false, ca 18, ⟨"NoSuch", ["name"], ["LookupError"], 18⟩), (true, ca 18, ⟨"NoSuch", ["name"], ["LookupError"], 18⟩), (false, ca 19, ⟨"Ended", ["what"], ["RuntimeError"], 19⟩), (true, ca 19, ⟨"Ended", ["what"], ["RuntimeError"], 19⟩)]
def items2 (ca : Nat → Addr) : List (Bool × Addr × Row) := [(false, ca 12, ⟨"Clashing", ["first", "second"], ["Refused", "ValueError"], 12⟩), (true, ca 12, ⟨"Clashing", ["first", "second"], ["Refused", "ValueError"], 12⟩), (false, ca 17, ⟨"TooMany", ["what", "size"], ["Refused", "ValueError"], 17⟩), (true, ca 17, ⟨"TooMany", ["what", "size"], ["Refused", "ValueError"], 17⟩)]
def itemsI : List (Bool × Row) := [(false, ⟨"BadNumber", ["value"], ["Malformed", "ValueError"], 0⟩), (true, ⟨"BadNumber", ["value"], ["Malformed", "ValueError"], 0⟩), (false, ⟨"BadName", ["name"], ["Malformed", "ValueError"], 1⟩), (true, ⟨"BadName", ["name"], ["Malformed", "ValueError"], 1⟩), (false, ⟨"BadSum", ["term"], ["Malformed", "ValueError"], 2⟩), (true, ⟨"BadSum", ["term"], ["Malformed", "ValueError"], 2⟩), (false, ⟨"BadTable", ["row"], ["Malformed", "ValueError"], 3⟩), (true, ⟨"BadTable", ["row"], ["Malformed", "ValueError"], 3⟩), (false, ⟨"BadDeed", ["at"], ["Malformed", "ValueError"], 4⟩), (true, ⟨"BadDeed", ["at"], ["Malformed", "ValueError"], 4⟩), (false, ⟨"BadBook", ["line"], ["Malformed", "ValueError"], 5⟩), (true, ⟨"BadBook", ["line"], ["Malformed", "ValueError"], 5⟩), (false, ⟨"BadPattern", ["at"], ["Malformed", "ValueError"], 6⟩), (true, ⟨"BadPattern", ["at"], ["Malformed", "ValueError"], 6⟩), (false, ⟨"BadTorus", ["at"], ["Malformed", "ValueError"], 7⟩), (true, ⟨"BadTorus", ["at"], ["Malformed", "ValueError"], 7⟩), (false, ⟨"BadGate", ["line"], ["Malformed", "ValueError"], 8⟩), (true, ⟨"BadGate", ["line"], ["Malformed", "ValueError"], 8⟩), (false, ⟨"BadRule", ["line"], ["Malformed", "ValueError"], 9⟩), (true, ⟨"BadRule", ["line"], ["Malformed", "ValueError"], 9⟩), (false, ⟨"BadCharge", ["length"], ["Malformed", "ValueError"], 10⟩), (true, ⟨"BadCharge", ["length"], ["Malformed", "ValueError"], 10⟩), (false, ⟨"BadScript", ["line"], ["Malformed", "ValueError"], 11⟩), (true, ⟨"BadScript", ["line"], ["Malformed", "ValueError"], 11⟩), (false, ⟨"Unlike", ["what"], ["Refused", "ValueError"], 13⟩), (true, ⟨"Unlike", ["what"], ["Refused", "ValueError"], 13⟩), (false, ⟨"NotTight", ["kind"], ["Refused", "ValueError"], 14⟩), (true, ⟨"NotTight", ["kind"], ["Refused", "ValueError"], 14⟩), (false, ⟨"NotRule", ["row"], ["Refused", "ValueError"], 15⟩), (true, ⟨"NotRule", ["row"], ["Refused", "ValueError"], 15⟩), (false, ⟨"NotFitting", ["what"], ["Refused", "ValueError"], 16⟩), (true, ⟨"NotFitting", ["what"], ["Refused", "ValueError"], 16⟩), (false, ⟨"NoSuch", ["name"], ["LookupError"], 18⟩), (true, ⟨"NoSuch", ["name"], ["LookupError"], 18⟩), (false, ⟨"Ended", ["what"], ["RuntimeError"], 19⟩), (true, ⟨"Ended", ["what"], ["RuntimeError"], 19⟩)]
def itemsJ : List (Bool × Row) := [(false, ⟨"Clashing", ["first", "second"], ["Refused", "ValueError"], 12⟩), (true, ⟨"Clashing", ["first", "second"], ["Refused", "ValueError"], 12⟩), (false, ⟨"TooMany", ["what", "size"], ["Refused", "ValueError"], 17⟩), (true, ⟨"TooMany", ["what", "size"], ["Refused", "ValueError"], 17⟩)]
def spRaised (ca : Nat → Addr) : Sp := fun vs H Q E => ∃ (way : Int) (u v : V), vs = [.int way, u, v] ∧ (way = 0 → ∀ d, H d = none → E (.ref (ca 17)) (some d) (upd H d (.xd (fsOf ["what", "size"] [u, v])))) ∧
  (way ≠ 0 → ∀ d, H d = none → E (.ref (ca 8)) (some d) (upd H d (.xd (fsOf ["line"] [u]))))
/-- one made exception with its word, in a tuple: the fields stand in the slots 0, 1 -/
def tMade (k : Bool) (C : Addr) (r : Row) (ta tb : TA) : TE := tTup (tCons (if k = true then tExK C r.flds tb else tExJ C r.flds ta) (tCons (tC (.str r.tag)) tNil))
def tMades (ta tb : TA) : List (Bool × Addr × Row) → TA
  | [] => tNil
  | m :: r => tCons (tMade m.1 m.2.1 m.2.2 ta tb) (tMades ta tb r)
/-- the exceptions that were laid -/
def LaidE (us : List V) (ns : List (Bool × Addr × Row)) (ps : List Addr) (H : Hp) : Prop := ps.length = ns.length ∧ ∀ (i : Nat) p n, ps[i]? = some p → ns[i]? = some n → ∃ a d, H p = some (.tup [.ref a, .str n.2.2.tag]) ∧ H a = some (ExV (.ref n.2.1) d a) ∧ H d = some (.xd (fsOf n.2.2.flds us))
section
variable {P : Program} {w : World} {K : PySem.W.Frag} {mg : Str → Option Value} {base : Heap} {PR : Addr} {ca fa : Nat → Addr} {f : Addr} {fd : FuncData}
theorem tMades_read {σ : L2.St} {us : List V} {ta tb : TA} (ha : ∀ (H : Hp) (Q : List V → Hp → Prop), Q us H → ta σ H Q) (hb : ∀ (H : Hp) (Q : List V → Hp → Prop), Q us.reverse H → tb σ H Q) : ∀ (cs : List (Bool × Addr × Row)) (H : Hp) (Q : List V → Hp → Prop),
    (∀ m ∈ cs, us.length = m.2.2.flds.length) → (∀ (ps : List Addr) H', Same H H' → LaidE us cs ps H' → Q (ps.map V.ref) H') → tMades ta tb cs σ H Q
  | [], H, Q, _, k => k [] H (Same.refl H) ⟨rfl, fun i p n h _ => by cases h⟩
  | m :: cs, H, Q, hl, k => by
    have go : exW m.2.1 (fsOf m.2.2.flds us) H fun x H1 => (tCons (tC (.str m.2.2.tag)) tNil) σ H1 fun xs H2 => (x :: xs).length ≤ sizeLine ∧ ∀ p, H2 p = none → (tMades ta tb cs) σ (upd H2 p (.tup (x :: xs))) fun ys H3 => Q (.ref p :: ys) H3 := by
      intro a d na ndd ne
      refine ⟨by show 2 ≤ sizeLine; decide, fun p np => ?_⟩
      have sd : ∀ o, Same H (upd H d o) := fun o => Same.put ndd
      have na2 : ∀ o, (upd H d o) a = none := fun o => by rw [upd_ne ne]; exact na
      have sa : ∀ o o', Same (upd H d o) (upd (upd H d o) a o') := fun o o' => Same.put (na2 o)
      have sp : ∀ o, Same (upd (upd H d (.xd (fsOf m.2.2.flds us))) a (ExV (.ref m.2.1) d a)) (upd (upd (upd H d (.xd (fsOf m.2.2.flds us))) a (ExV (.ref m.2.1) d a)) p o) := fun o => Same.put np
      refine tMades_read ha hb cs _ _ (fun m' h' => hl m' (List.mem_cons_of_mem _ h')) fun ps H' s2 L => ?_
      refine k (p :: ps) H' ((((sd _).trans (sa _ _)).trans (sp _)).trans s2) ⟨by rw [List.length_cons, L.1]; rfl, fun i q n h1 h2 => ?_⟩
      cases i with
      | zero =>
        cases h1
        cases h2
        exact ⟨a, d, s2 _ _ upd_same, s2 _ _ ((sp _) _ _ upd_same), s2 _ _ ((sp _) _ _ ((sa _ _) _ _ upd_same))⟩
      | succ i => exact L.2 i q n h1 h2
    have hlm := hl m List.mem_cons_self
    obtain ⟨k1, C, r⟩ := m
    cases k1 with
    | false => exact ha H _ ⟨hlm, go⟩
    | true => exact hb H _ ⟨by rw [List.length_reverse]; exact hlm, by rw [List.reverse_reverse]; exact go⟩
theorem ok_raised (F : Fun K "_law_raised" "_law_raised" s_law_raised f fd) (TE : TxtX P K mg ca fa) : FnOk P w K mg base (L2N.CX P w) 1 f fd ["way", "u", "v"] (spRaised ca) := by
  obtain ⟨oc, od, kV, doc, pm, an, cdv, ct, osl, rfl, lk, hcd⟩ := F.ex
  refine fn_of lk hcd sc_law_raised (fun vs H Q E h => ?_) fun A outer s H vs Q E hr h => ?_
  · obtain ⟨way, u, v, rfl, _⟩ := h
    rfl
  · obtain ⟨way, u, v, rfl, k0, k1⟩ := h
    have nd := sc_law_raised.nd
    have tk := L2N.takes_of (X := cxOf (L2N.CX P w) P w K mg base ["way", "u", "v"] "_law_raised" (defScope s_law_raised) f cdv A outer s H E) rfl rfl rfl rfl
    refine ⟨_, (pss_cons (ps_if (pt_cmpR op_eq (pv 0) pe_int (nomark _))
      (pss_one (L2N.ps_raise rfl tk (pmk_exJ PySem.F.excBase_ValueError PySem.W.kxs_ValueError PySem.F.store_ValueError TE.x_TooMany TE.r_TooMany hr (pa_cons (pv 1) (pa_cons (pv 2) pa_nil)) rfl)))
      pss_nil)
    (pss_one (L2N.ps_raise rfl tk (pmk_exJ PySem.F.excBase_ValueError PySem.W.kxs_ValueError PySem.F.store_ValueError TE.x_BadGate TE.r_BadGate hr (pa_cons (pv 1) pa_nil) rfl)))), ?_⟩
    refine ⟨_, rfl, rfl, _, rfl, ?_⟩
    refine ite2 (fun h => ?_) (fun h => ?_)
    · exact ⟨_, rfl, _, rfl, rfl, k0 (by simpa using h)⟩
    · refine nxt ?_
      exact ⟨_, rfl, rfl, k1 (by simpa using h)⟩
theorem items_ok (ca : Nat → Addr) : ∀ m ∈ items ca, m.2.2 ∈ rows ∧ m.2.1 = ca m.2.2.at_ ∧ m.2.2.flds.length = 1 := by
  have e : items ca = itemsI.map fun m => (m.1, ca m.2.at_, m.2) := rfl
  have z : ∀ m ∈ itemsI, m.2 ∈ rows ∧ m.2.flds.length = 1 := by decide +kernel
  intro m hm
  rw [e] at hm
  obtain ⟨n, hn, rfl⟩ := List.mem_map.mp hm
  exact ⟨(z n hn).1, rfl, (z n hn).2⟩
theorem items2_ok (ca : Nat → Addr) : ∀ m ∈ items2 ca, m.2.2 ∈ rows ∧ m.2.1 = ca m.2.2.at_ ∧ m.2.2.flds.length = 2 := by
  have e : items2 ca = itemsJ.map fun m => (m.1, ca m.2.at_, m.2) := rfl
  have z : ∀ m ∈ itemsJ, m.2 ∈ rows ∧ m.2.flds.length = 2 := by decide +kernel
  intro m hm
  rw [e] at hm
  obtain ⟨n, hn, rfl⟩ := List.mem_map.mp hm
  exact ⟨(z n hn).1, rfl, (z n hn).2⟩
/-- the fields, in their order -/
theorem fs_lookup : ∀ r ∈ rows, r.flds.Nodup := by decide +kernel
theorem fs_one {r : Row} (h : r.flds.length = 1) (u : V) : r.flds.map (fun f => (fsOf r.flds [u]).lookup f) = [u].map some := by
  match r.flds, h with
  | [f], _ => simp [fsOf, List.lookup]
theorem fs_two {r : Row} (h : r.flds.length = 2) (nd : r.flds.Nodup) (u v : V) : r.flds.map (fun f => (fsOf r.flds [u, v]).lookup f) = [u, v].map some := by
  match r.flds, h, nd with
  | [f, g], _, nd =>
    have ne : f ≠ g := fun e => by rw [e] at nd; simp at nd
    have ne2 : (f == g) = false := beq_eq_false_iff_ne.mpr ne
    simp [fsOf, List.lookup, ne2]
structure TxtK (K : PySem.W.Frag) (ca : Nat → Addr) : Prop where
  c : ∀ r ∈ rows, ClsE K ca (ca r.at_) r
def spOne : Sp := fun vs H Q _ => ∃ u : V, vs = [u] ∧ Th H u ∧ ∀ H', Same H H' → Q (.bl true) H'
def spTwo : Sp := fun vs H Q _ => ∃ u v : V, vs = [u, v] ∧ Th H u ∧ Th H v ∧ ∀ H', Same H H' → Q (.bl true) H'
theorem for_start {ta : TA} {g : TG} {tb u : TS} {D : Ends} {σ : L2.St} {H : Hp} (h : ta σ H fun xs H1 => xs.length ≤ sizeLine ∧ ∀ p, H1 p = none → tFor (iList K (tC (.ref p))) g tb { D with nx := u D } σ (upd H1 p (.lst xs))) : tSeq (tFor (iList K (tLst ta)) g tb) u D σ H := h
theorem ok_one (F : Fun K "_law_one_field" "_law_one_field" s_law_one_field f fd) (TE : TxtX P K mg ca fa) (TK : TxtK K ca) (g_law_made_well : CalG P w K mg base 4 "_law_made_well" 2 (spMade K ca)) : FnOk P w K mg base (L2N.CX P w) 5 f fd ["u"] spOne := by
  obtain ⟨oc, od, kV, doc, pm, an, cdv, ct, osl, rfl, lk, hcd⟩ := F.ex
  refine fn_of lk hcd sc_law_one_field (fun vs H Q E h => ?_) fun A outer s H vs Q E hr h => ?_
  · obtain ⟨u, rfl, _⟩ := h
    rfl
  · obtain ⟨u, rfl, hu, k⟩ := h
    have nd := sc_law_one_field.nd
    have heat : Heat (cxOf (L2N.CX P w) P w K mg base ["u", "e", "due"] "_law_one_field" (defScope s_law_one_field) f cdv A outer s H E) 4 none := .inl ⟨rfl, rfl, rfl, hr⟩
    refine ⟨_, (pss_cons (ps_for (passes_of rfl) rfl (pi_list (pe_lst (show PA _ _ (tMades (tCons (tVar 0) tNil) (tCons (tVar 0) tNil) (items ca)) from (pa_cons (pe_tup (pa_cons (pe_exJ PySem.F.excBase_ValueError PySem.W.kxs_ValueError PySem.F.store_ValueError TE.x_BadNumber TE.r_BadNumber hr (pa_cons (pv 0) pa_nil) rfl) (pa_cons pe_str pa_nil))) (pa_cons (pe_tup (pa_cons (pe_exK PySem.F.excBase_ValueError PySem.W.kxs_ValueError PySem.F.store_ValueError TE.x_BadNumber TE.r_BadNumber hr rfl (pk_cons (pv 0) pk_nil)) (pa_cons pe_str pa_nil))) (pa_cons (pe_tup (pa_cons (pe_exJ PySem.F.excBase_ValueError PySem.W.kxs_ValueError PySem.F.store_ValueError TE.x_BadName TE.r_BadName hr (pa_cons (pv 0) pa_nil) rfl) (pa_cons pe_str pa_nil))) (pa_cons (pe_tup (pa_cons (pe_exK PySem.F.excBase_ValueError PySem.W.kxs_ValueError PySem.F.store_ValueError TE.x_BadName TE.r_BadName hr rfl (pk_cons (pv 0) pk_nil)) (pa_cons pe_str pa_nil))) (pa_cons (pe_tup (pa_cons (pe_exJ PySem.F.excBase_ValueError PySem.W.kxs_ValueError PySem.F.store_ValueError TE.x_BadSum TE.r_BadSum hr (pa_cons (pv 0) pa_nil) rfl) (pa_cons pe_str pa_nil))) (pa_cons (pe_tup (pa_cons (pe_exK PySem.F.excBase_ValueError PySem.W.kxs_ValueError PySem.F.store_ValueError TE.x_BadSum TE.r_BadSum hr rfl (pk_cons (pv 0) pk_nil)) (pa_cons pe_str pa_nil))) (pa_cons (pe_tup (pa_cons (pe_exJ PySem.F.excBase_ValueError PySem.W.kxs_ValueError PySem.F.store_ValueError TE.x_BadTable TE.r_BadTable hr (pa_cons (pv 0) pa_nil) rfl) (pa_cons pe_str pa_nil))) (pa_cons (pe_tup (pa_cons (pe_exK PySem.F.excBase_ValueError PySem.W.kxs_ValueError PySem.F.store_ValueError TE.x_BadTable TE.r_BadTable hr rfl (pk_cons (pv 0) pk_nil)) (pa_cons pe_str pa_nil))) (pa_cons (pe_tup (pa_cons (pe_exJ PySem.F.excBase_ValueError PySem.W.kxs_ValueError PySem.F.store_ValueError TE.x_BadDeed TE.r_BadDeed hr (pa_cons (pv 0) pa_nil) rfl) (pa_cons pe_str pa_nil))) (pa_cons (pe_tup (pa_cons (pe_exK PySem.F.excBase_ValueError PySem.W.kxs_ValueError PySem.F.store_ValueError TE.x_BadDeed TE.r_BadDeed hr rfl (pk_cons (pv 0) pk_nil)) (pa_cons pe_str pa_nil))) (pa_cons (pe_tup (pa_cons (pe_exJ PySem.F.excBase_ValueError PySem.W.kxs_ValueError PySem.F.store_ValueError TE.x_BadBook TE.r_BadBook hr (pa_cons (pv 0) pa_nil) rfl) (pa_cons pe_str pa_nil))) (pa_cons (pe_tup (pa_cons (pe_exK PySem.F.excBase_ValueError PySem.W.kxs_ValueError PySem.F.store_ValueError TE.x_BadBook TE.r_BadBook hr rfl (pk_cons (pv 0) pk_nil)) (pa_cons pe_str pa_nil))) (pa_cons (pe_tup (pa_cons (pe_exJ PySem.F.excBase_ValueError PySem.W.kxs_ValueError PySem.F.store_ValueError TE.x_BadPattern TE.r_BadPattern hr (pa_cons (pv 0) pa_nil) rfl) (pa_cons pe_str pa_nil))) (pa_cons (pe_tup (pa_cons (pe_exK PySem.F.excBase_ValueError PySem.W.kxs_ValueError PySem.F.store_ValueError TE.x_BadPattern TE.r_BadPattern hr rfl (pk_cons (pv 0) pk_nil)) (pa_cons pe_str pa_nil))) (pa_cons (pe_tup (pa_cons (pe_exJ PySem.F.excBase_ValueError PySem.W.kxs_ValueError PySem.F.store_ValueError TE.x_BadTorus TE.r_BadTorus hr (pa_cons (pv 0) pa_nil) rfl) (pa_cons pe_str pa_nil))) (pa_cons (pe_tup (pa_cons (pe_exK PySem.F.excBase_ValueError PySem.W.kxs_ValueError PySem.F.store_ValueError TE.x_BadTorus TE.r_BadTorus hr rfl (pk_cons (pv 0) pk_nil)) (pa_cons pe_str pa_nil))) (pa_cons (pe_tup (pa_cons (pe_exJ PySem.F.excBase_ValueError PySem.W.kxs_ValueError PySem.F.store_ValueError TE.x_BadGate TE.r_BadGate hr (pa_cons (pv 0) pa_nil) rfl) (pa_cons pe_str pa_nil))) (pa_cons (pe_tup (pa_cons (pe_exK PySem.F.excBase_ValueError PySem.W.kxs_ValueError PySem.F.store_ValueError TE.x_BadGate TE.r_BadGate hr rfl (pk_cons (pv 0) pk_nil)) (pa_cons pe_str pa_nil))) (pa_cons (pe_tup (pa_cons (pe_exJ PySem.F.excBase_ValueError PySem.W.kxs_ValueError PySem.F.store_ValueError TE.x_BadRule TE.r_BadRule hr (pa_cons (pv 0) pa_nil) rfl) (pa_cons pe_str pa_nil))) (pa_cons (pe_tup (pa_cons (pe_exK PySem.F.excBase_ValueError PySem.W.kxs_ValueError PySem.F.store_ValueError TE.x_BadRule TE.r_BadRule hr rfl (pk_cons (pv 0) pk_nil)) (pa_cons pe_str pa_nil))) (pa_cons (pe_tup (pa_cons (pe_exJ PySem.F.excBase_ValueError PySem.W.kxs_ValueError PySem.F.store_ValueError TE.x_BadCharge TE.r_BadCharge hr (pa_cons (pv 0) pa_nil) rfl) (pa_cons pe_str pa_nil))) (pa_cons (pe_tup (pa_cons (pe_exK PySem.F.excBase_ValueError PySem.W.kxs_ValueError PySem.F.store_ValueError TE.x_BadCharge TE.r_BadCharge hr rfl (pk_cons (pv 0) pk_nil)) (pa_cons pe_str pa_nil))) (pa_cons (pe_tup (pa_cons (pe_exJ PySem.F.excBase_ValueError PySem.W.kxs_ValueError PySem.F.store_ValueError TE.x_BadScript TE.r_BadScript hr (pa_cons (pv 0) pa_nil) rfl) (pa_cons pe_str pa_nil))) (pa_cons (pe_tup (pa_cons (pe_exK PySem.F.excBase_ValueError PySem.W.kxs_ValueError PySem.F.store_ValueError TE.x_BadScript TE.r_BadScript hr rfl (pk_cons (pv 0) pk_nil)) (pa_cons pe_str pa_nil))) (pa_cons (pe_tup (pa_cons (pe_exJ PySem.F.excBase_ValueError PySem.W.kxs_ValueError PySem.F.store_ValueError TE.x_Unlike TE.r_Unlike hr (pa_cons (pv 0) pa_nil) rfl) (pa_cons pe_str pa_nil))) (pa_cons (pe_tup (pa_cons (pe_exK PySem.F.excBase_ValueError PySem.W.kxs_ValueError PySem.F.store_ValueError TE.x_Unlike TE.r_Unlike hr rfl (pk_cons (pv 0) pk_nil)) (pa_cons pe_str pa_nil))) (pa_cons (pe_tup (pa_cons (pe_exJ PySem.F.excBase_ValueError PySem.W.kxs_ValueError PySem.F.store_ValueError TE.x_NotTight TE.r_NotTight hr (pa_cons (pv 0) pa_nil) rfl) (pa_cons pe_str pa_nil))) (pa_cons (pe_tup (pa_cons (pe_exK PySem.F.excBase_ValueError PySem.W.kxs_ValueError PySem.F.store_ValueError TE.x_NotTight TE.r_NotTight hr rfl (pk_cons (pv 0) pk_nil)) (pa_cons pe_str pa_nil))) (pa_cons (pe_tup (pa_cons (pe_exJ PySem.F.excBase_ValueError PySem.W.kxs_ValueError PySem.F.store_ValueError TE.x_NotRule TE.r_NotRule hr (pa_cons (pv 0) pa_nil) rfl) (pa_cons pe_str pa_nil))) (pa_cons (pe_tup (pa_cons (pe_exK PySem.F.excBase_ValueError PySem.W.kxs_ValueError PySem.F.store_ValueError TE.x_NotRule TE.r_NotRule hr rfl (pk_cons (pv 0) pk_nil)) (pa_cons pe_str pa_nil))) (pa_cons (pe_tup (pa_cons (pe_exJ PySem.F.excBase_ValueError PySem.W.kxs_ValueError PySem.F.store_ValueError TE.x_NotFitting TE.r_NotFitting hr (pa_cons (pv 0) pa_nil) rfl) (pa_cons pe_str pa_nil))) (pa_cons (pe_tup (pa_cons (pe_exK PySem.F.excBase_ValueError PySem.W.kxs_ValueError PySem.F.store_ValueError TE.x_NotFitting TE.r_NotFitting hr rfl (pk_cons (pv 0) pk_nil)) (pa_cons pe_str pa_nil))) (pa_cons (pe_tup (pa_cons (pe_exJ PySem.F.excBase_LookupError PySem.W.kxs_LookupError PySem.F.store_LookupError TE.x_NoSuch TE.r_NoSuch hr (pa_cons (pv 0) pa_nil) rfl) (pa_cons pe_str pa_nil))) (pa_cons (pe_tup (pa_cons (pe_exK PySem.F.excBase_LookupError PySem.W.kxs_LookupError PySem.F.store_LookupError TE.x_NoSuch TE.r_NoSuch hr rfl (pk_cons (pv 0) pk_nil)) (pa_cons pe_str pa_nil))) (pa_cons (pe_tup (pa_cons (pe_exJ PySem.F.excBase_RuntimeError PySem.W.kxs_RuntimeError PySem.F.store_RuntimeError TE.x_Ended TE.r_Ended hr (pa_cons (pv 0) pa_nil) rfl) (pa_cons pe_str pa_nil))) (pa_cons (pe_tup (pa_cons (pe_exK PySem.F.excBase_RuntimeError PySem.W.kxs_RuntimeError PySem.F.store_RuntimeError TE.x_Ended TE.r_Ended hr rfl (pk_cons (pv 0) pk_nil)) (pa_cons pe_str pa_nil))) pa_nil))))))))))))))))))))))))))))))))))))))) (pg_tup rfl (pgs_cons (pg_name (i := 1) nd rfl (Or.inl rfl)) (pgs_cons (pg_name (i := 2) nd rfl (Or.inl rfl)) pgs_nil)))
      (pss_one (ps_if (pt_not (pt_val (pn_g g_law_made_well heat (by omega) takes0N rfl (pa_cons (pv 1) (pa_cons (pe_lst (pa_cons (pv 2) (pa_cons (pv 0) pa_nil))) pa_nil)))))
        (pss_one (ps_ret pe_bl))
        pss_nil)))
    (pss_one (ps_ret pe_bl))), ?_⟩
    refine for_start ?_
    refine tMades_read (us := [u]) (fun H Q q => ⟨_, rfl, q⟩) (fun H Q q => ⟨_, rfl, q⟩) (items ca) H _ (fun m hm => ((items_ok ca m hm).2.2).symm) fun ps H1 s1 L => ⟨by rw [List.length_map, L.1]; show 36 ≤ sizeLine; decide, fun p np => ?_⟩
    have s2 : Same H1 (upd H1 p (.lst (ps.map V.ref))) := Same.put np
    refine ⟨p, rfl, ⟨_, SqL.of upd_same⟩, ?_⟩
    refine for_list (K := K) (a := p) (xs := ps.map V.ref) (fun i σ H' => ∃ x y, σ = [some u, x, y] ∧ Same (upd H1 p (.lst (ps.map V.ref))) H') ⟨_, _, rfl, Same.refl _⟩ (fun i σ H' _ ⟨_, _, _, s3⟩ => SqL.of (s3 _ _ upd_same)) ?_ ?_
    · rintro i x σ H' hx ⟨x1, y1, rfl, s3⟩
      obtain ⟨q, hq, rfl⟩ : ∃ q, ps[i]? = some q ∧ x = V.ref q := by
        rw [List.getElem?_map] at hx
        cases e : ps[i]? with
        | none => rw [e] at hx; cases hx
        | some z => rw [e] at hx; exact ⟨z, rfl, (Option.some.inj hx).symm⟩
      have hi := (List.getElem?_eq_some_iff.mp hq).1
      obtain ⟨b, hb⟩ : ∃ b, (items ca)[i]? = some b := ⟨_, List.getElem?_eq_getElem (by rw [← L.1]; exact hi)⟩
      obtain ⟨a, d, hT, hA, hD⟩ := L.2 i q b hq hb
      obtain ⟨hr1, hC, hl1⟩ := items_ok ca b (List.mem_of_getElem? hb)
      have sx := s2.trans s3
      refine ⟨q, _, rfl, SqT.of (sx _ _ hT), rfl, _, _, rfl, _, _, rfl, rfl, ?_⟩
      refine ⟨_, rfl, _, rfl, _, rfl, by show 2 ≤ sizeLine; decide, fun l nl => ?_⟩
      have s4 : ∀ o, Same H' (upd H' l o) := fun o => Same.put nl
      have sH := (s1.trans sx).trans (s4 (.lst [.str b.2.2.tag, u]))
      refine ⟨a, b.2.1, d, l, fsOf b.2.2.flds [u], b.2.2, [u], rfl, hr1, by rw [hC]; exact TK.c _ hr1, ⟨.inr ((s4 _) _ _ (sx _ _ hA)), (s4 _) _ _ (sx _ _ hD)⟩, fs_one hl1 u, upd_same, fun z hz => ?_, fun H5 s5 => ⟨_, rfl, ?_⟩⟩
      · rw [List.mem_singleton.mp hz]
        exact hu.same sH
      · refine iteF ?_
        refine nxt ?_
        exact ⟨_, _, rfl, (s3.trans (s4 _)).trans s5⟩
    · rintro σ H' ⟨x1, y1, rfl, s3⟩
      exact k H' ((s1.trans s2).trans s3)
theorem ok_two (F : Fun K "_law_two_fields" "_law_two_fields" s_law_two_fields f fd) (TE : TxtX P K mg ca fa) (TK : TxtK K ca) (g_law_made_well : CalG P w K mg base 4 "_law_made_well" 2 (spMade K ca)) : FnOk P w K mg base (L2N.CX P w) 5 f fd ["u", "v"] spTwo := by
  obtain ⟨oc, od, kV, doc, pm, an, cdv, ct, osl, rfl, lk, hcd⟩ := F.ex
  refine fn_of lk hcd sc_law_two_fields (fun vs H Q E h => ?_) fun A outer s H vs Q E hr h => ?_
  · obtain ⟨u, v, rfl, _⟩ := h
    rfl
  · obtain ⟨u, v, rfl, hu, hv, k⟩ := h
    have nd := sc_law_two_fields.nd
    have heat : Heat (cxOf (L2N.CX P w) P w K mg base ["u", "v", "e", "due"] "_law_two_fields" (defScope s_law_two_fields) f cdv A outer s H E) 4 none := .inl ⟨rfl, rfl, rfl, hr⟩
    refine ⟨_, (pss_cons (ps_for (passes_of rfl) rfl (pi_list (pe_lst (show PA _ _ (tMades (tCons (tVar 0) (tCons (tVar 1) tNil)) (tCons (tVar 1) (tCons (tVar 0) tNil)) (items2 ca)) from (pa_cons (pe_tup (pa_cons (pe_exJ PySem.F.excBase_ValueError PySem.W.kxs_ValueError PySem.F.store_ValueError TE.x_Clashing TE.r_Clashing hr (pa_cons (pv 0) (pa_cons (pv 1) pa_nil)) rfl) (pa_cons pe_str pa_nil))) (pa_cons (pe_tup (pa_cons (pe_exK PySem.F.excBase_ValueError PySem.W.kxs_ValueError PySem.F.store_ValueError TE.x_Clashing TE.r_Clashing hr rfl (pk_cons (pv 1) (pk_cons (pv 0) pk_nil))) (pa_cons pe_str pa_nil))) (pa_cons (pe_tup (pa_cons (pe_exJ PySem.F.excBase_ValueError PySem.W.kxs_ValueError PySem.F.store_ValueError TE.x_TooMany TE.r_TooMany hr (pa_cons (pv 0) (pa_cons (pv 1) pa_nil)) rfl) (pa_cons pe_str pa_nil))) (pa_cons (pe_tup (pa_cons (pe_exK PySem.F.excBase_ValueError PySem.W.kxs_ValueError PySem.F.store_ValueError TE.x_TooMany TE.r_TooMany hr rfl (pk_cons (pv 1) (pk_cons (pv 0) pk_nil))) (pa_cons pe_str pa_nil))) pa_nil))))))) (pg_tup rfl (pgs_cons (pg_name (i := 2) nd rfl (Or.inl rfl)) (pgs_cons (pg_name (i := 3) nd rfl (Or.inl rfl)) pgs_nil)))
      (pss_one (ps_if (pt_not (pt_val (pn_g g_law_made_well heat (by omega) takes0N rfl (pa_cons (pv 2) (pa_cons (pe_lst (pa_cons (pv 3) (pa_cons (pv 0) (pa_cons (pv 1) pa_nil)))) pa_nil)))))
        (pss_one (ps_ret pe_bl))
        pss_nil)))
    (pss_one (ps_ret pe_bl))), ?_⟩
    refine for_start ?_
    refine tMades_read (us := [u, v]) (fun H Q q => ⟨_, rfl, _, rfl, q⟩) (fun H Q q => ⟨_, rfl, _, rfl, q⟩) (items2 ca) H _ (fun m hm => ((items2_ok ca m hm).2.2).symm) fun ps H1 s1 L => ⟨by rw [List.length_map, L.1]; show 4 ≤ sizeLine; decide, fun p np => ?_⟩
    have s2 : Same H1 (upd H1 p (.lst (ps.map V.ref))) := Same.put np
    refine ⟨p, rfl, ⟨_, SqL.of upd_same⟩, ?_⟩
    refine for_list (K := K) (a := p) (xs := ps.map V.ref) (fun i σ H' => ∃ x y, σ = [some u, some v, x, y] ∧ Same (upd H1 p (.lst (ps.map V.ref))) H') ⟨_, _, rfl, Same.refl _⟩ (fun i σ H' _ ⟨_, _, _, s3⟩ => SqL.of (s3 _ _ upd_same)) ?_ ?_
    · rintro i x σ H' hx ⟨x1, y1, rfl, s3⟩
      obtain ⟨q, hq, rfl⟩ : ∃ q, ps[i]? = some q ∧ x = V.ref q := by
        rw [List.getElem?_map] at hx
        cases e : ps[i]? with
        | none => rw [e] at hx; cases hx
        | some z => rw [e] at hx; exact ⟨z, rfl, (Option.some.inj hx).symm⟩
      have hi := (List.getElem?_eq_some_iff.mp hq).1
      obtain ⟨b, hb⟩ : ∃ b, (items2 ca)[i]? = some b := ⟨_, List.getElem?_eq_getElem (by rw [← L.1]; exact hi)⟩
      obtain ⟨a, d, hT, hA, hD⟩ := L.2 i q b hq hb
      obtain ⟨hr1, hC, hl1⟩ := items2_ok ca b (List.mem_of_getElem? hb)
      have sx := s2.trans s3
      refine ⟨q, _, rfl, SqT.of (sx _ _ hT), rfl, _, _, rfl, _, _, rfl, rfl, ?_⟩
      refine ⟨_, rfl, _, rfl, _, rfl, _, rfl, by show 3 ≤ sizeLine; decide, fun l nl => ?_⟩
      have s4 : ∀ o, Same H' (upd H' l o) := fun o => Same.put nl
      have sH := (s1.trans sx).trans (s4 (.lst [.str b.2.2.tag, u, v]))
      refine ⟨a, b.2.1, d, l, fsOf b.2.2.flds [u, v], b.2.2, [u, v], rfl, hr1, by rw [hC]; exact TK.c _ hr1, ⟨.inr ((s4 _) _ _ (sx _ _ hA)), (s4 _) _ _ (sx _ _ hD)⟩, fs_two hl1 (fs_lookup _ hr1) u v, upd_same, fun z hz => ?_, fun H5 s5 => ⟨_, rfl, ?_⟩⟩
      · rcases List.mem_cons.mp hz with rfl | hz
        · exact hu.same sH
        · rw [List.mem_singleton.mp hz]
          exact hv.same sH
      · refine iteF ?_
        refine nxt ?_
        exact ⟨_, _, rfl, (s3.trans (s4 _)).trans s5⟩
    · rintro σ H' ⟨x1, y1, rfl, s3⟩
      exact k H' ((s1.trans s2).trans s3)
end
end K00
/-! part N00 -/
set_option Elab.async false
set_option linter.all false
set_option maxRecDepth 100000
set_option maxHeartbeats 4000000
namespace GX
open PySem PySem.Spec PyProof.Rows L2 L2H
/-- f(e, ..) in an except suite, f's promise told of the handled exception, whatever its object -/
def tGE (sp : SpG) (a : Addr) (cls : Value) (d : Option Addr) (t : TA) : TE := fun σ H Q => ∀ oe, L2N.Zn cls d oe → t σ H fun vs H1 => sp (some (a, oe)) vs H1 Q (fun _ _ _ => False)
theorem pn_gE {X : Cx} {k j n : Nat} {x : Str} {sp : SpG} {a : Addr} {oe : Obj} {cls : Value} {d : Option Addr} {pn : List (Addr × Obj)} {p pos : Pos} {e : Expr} {es : List Expr} {t : TA} (c : CalG X.prog X.w X.K X.mg X.base k x n sp) (hz : L2N.Zn cls d oe) (hf : ∃ vs, oe.data = .fields vs)
    (hr : RoomH j (X.A.mark (some (.ref a)))) (hj : k ≤ j) (hg : Gl X x) (ha : PA (X.suite a ((a, oe) :: pn)) (e :: es) t)
    (hdb : (x == ("__debug__" : Str)) = false := by decide) (he : starEach (e :: es) X.env = (false, eval e X.env) :: starEach es X.env := by rfl) (hpl : (backTo pos (starEach es X.env)).any (·.1) = false := by rfl) :
    PE (X.suite a ((a, oe) :: pn)) (.Call (.Name x p) (e :: es) [] pos) (tGE sp a cls d t) := by
  have hh : Heat (X.suite a ((a, oe) :: pn)) j (some (a, oe)) := .inr ⟨(a, oe), rfl, hot1_suite hz hf, List.mem_cons_self, hr⟩
  have z := pn_g (X := X.suite a ((a, oe) :: pn)) (o := some (a, oe)) (W := fun _ _ _ _ => False) (p := p) (pos := pos) c hh hj takes0N hg ha hdb he hpl
  exact ⟨fun pins s σ H Q I h => z.run pins s σ H Q I (h oe hz)⟩
end GX
namespace K00
open PySem L2 GX
theorem for_rngL {e : Int} {g : TG} {tb u : TS} {D : Ends} {σ : L2.St} {H : Hp} (Pv : Nat → L2.St → Hp → Prop) (he : -(2 ^ 62) ≤ e) (he2 : e < 2 ^ 62) (h0 : Pv 0 σ H)
    (hs : ∀ i σ H, i < e.toNat → Pv i σ H → g (.int (0 + (i : Int))) σ H fun σ2 H2 => tb { D with nx := Pv (i + 1), ct := Pv (i + 1), bk := u D } σ2 H2) (hd : ∀ σ H, Pv e.toNat σ H → u D σ H) : tSeq (tFor (iRng1 (tCons (tC (.int e)) tNil)) g tb) u D σ H :=
  ⟨e, rfl, he, he2, for_range (D := { D with nx := u D }) (n := e.toNat) Pv h0 hs hd⟩
structure TxtM (K : PySem.W.Frag) (mg : Str → Option Value) (ca : Nat → Addr) : Prop where
  g_Malformed : mg "Malformed" = some (.ref (ca 20))
  g_Refused : mg "Refused" = some (.ref (ca 21))
  g_NoSuch : mg "NoSuch" = some (.ref (ca 18))
  g_Ended : mg "Ended" = some (.ref (ca 19))
  ref17 : PySem.W.exmOne K (.ref (ca 17)) (.ref (ca 21)) = some true
  ref8 : PySem.W.exmOne K (.ref (ca 8)) (.ref (ca 21)) = some false
  mal8 : PySem.W.exmOne K (.ref (ca 8)) (.ref (ca 20)) = some true
  mal0 : PySem.W.exmOne K (.ref (ca 0)) (.ref (ca 20)) = some true
def W0 : WX := fun _ _ _ _ => False
def row8 : Row := ⟨"BadGate", ["line"], ["Malformed", "ValueError"], 8⟩
def row17 : Row := ⟨"TooMany", ["what", "size"], ["Refused", "ValueError"], 17⟩
section
variable {P : Program} {w : World} {K : PySem.W.Frag} {mg : Str → Option Value} {base : Heap} {PR : Addr} {ca fa : Nat → Addr} {f : Addr} {fd : FuncData}
theorem ok_caught (F : Fun K "_law_caught_by_bases" "_law_caught_by_bases" s_law_caught_by_bases f fd) (T : Txt K mg PR) (TK : TxtK K ca) (TM : TxtM K mg ca) (g_law_raised : CalN P w K mg base 1 "_law_raised" 3 [] (sk (spRaised ca))) (g_law_made_well : CalG P w K mg base 4 "_law_made_well" 2 (spMade K ca)) :
    FnOk P w K mg base (L2N.CX P w) 5 f fd ["u", "v"] spTwo := by
  obtain ⟨oc, od, kV, doc, pm, an, cdv, ct, osl, rfl, lk, hcd⟩ := F.ex
  refine fn_of lk hcd sc_law_caught_by_bases (fun vs H Q E h => ?_) fun A outer s H vs Q E hr h => ?_
  · obtain ⟨u, v, rfl, _⟩ := h
    rfl
  · obtain ⟨u, v, rfl, hu, hv, k⟩ := h
    have nd := sc_law_caught_by_bases.nd
    have rh : ∀ a : Addr, L2H.RoomH 4 ((cxOf (L2N.CX P w) P w K mg base ["u", "v", "way", "e"] "_law_caught_by_bases" (defScope s_law_caught_by_bases) f cdv A outer s H E).A.mark (some (.ref a))) := fun a => ⟨hr.dp, hr.un⟩
    refine ⟨_, (pss_cons (ps_for (passes_of rfl) rfl (pi_range1 rfl T.m_range (pa_cons pe_int pa_nil)) (pg_name (i := 2) nd rfl (Or.inl rfl))
      (pss_one (ps_tryA (Wout := W0) rfl rfl nd takes0N (fun W pn xe tk po => pss_cons (ps_expr (pn_f g_law_raised hr (by decide) tk rfl (pa_cons (pv 2) (pa_cons (pv 0) (pa_cons (pv 1) pa_nil)))))
        (pss_one (ps_ret pe_bl)))
        (.cons (i := 3) (.one ⟨rfl, by decide, .inl TM.g_Refused⟩) rfl rfl (fun x oe cls d pn hz hf => pss_one (ps_if (pt_not (pt_val (pn_gE g_law_made_well hz hf (rh x) (Nat.le_refl 4) rfl (pa_cons (pv 3) (pa_cons (pe_lst (pa_cons pe_str (pa_cons (pv 0) (pa_cons (pv 1) pa_nil)))) pa_nil))))) (pss_one (ps_ret pe_bl)) pss_nil))
        (.cons (i := 3) (.one ⟨rfl, by decide, .inl TM.g_Malformed⟩) rfl rfl (fun x oe cls d pn hz hf => pss_one (ps_if (pt_not (pt_val (pn_gE g_law_made_well hz hf (rh x) (Nat.le_refl 4) rfl (pa_cons (pv 3) (pa_cons (pe_lst (pa_cons pe_str (pa_cons (pv 0) pa_nil))) pa_nil))))) (pss_one (ps_ret pe_bl)) pss_nil)) .nil)))))
      (pss_one (ps_ret pe_bl))), ?_⟩
    refine for_rngL (fun i σ H' => ∃ x y, σ = [some u, some v, x, y] ∧ Same H H') (by decide) (by decide) ⟨none, none, rfl, Same.refl _⟩ ?_ ?_
    · rintro i σ H' hi ⟨x, y, rfl, s1⟩
      refine gnm ?_
      have hi2 : i < 2 := hi
      refine ⟨_, rfl, _, rfl, _, rfl, rfl, 0 + (i : Int), u, v, rfl, fun h0 d hd => ?_, fun h1 d hd => ?_⟩
      · have hx0 := Same.put (o := .xd (fsOf ["what", "size"] [u, v])) hd
        refine ⟨true, TM.ref17, fun _ a ha oe hz => ?_, fun z => by cases z⟩
        refine ⟨_, rfl, _, rfl, _, rfl, by show 3 ≤ sizeLine; decide, fun l nl => ?_⟩
        have s4 := Same.put (o := .lst [.str "TooMany", u, v]) nl
        have sH := (s1.trans hx0).trans s4
        refine ⟨a, ca 17, d, l, fsOf ["what", "size"] [u, v], row17, [u, v], rfl, by decide +kernel, TK.c row17 (by decide +kernel), ⟨.inl ⟨oe, rfl, hz⟩, s4 _ _ upd_same⟩, fs_two (r := row17) rfl (fs_lookup row17 (by decide +kernel)) u v, upd_same, fun z hz => ?_, fun H5 s5 => ⟨_, rfl, ?_⟩⟩
        · rcases List.mem_cons.mp hz with rfl | hz
          · exact hu.same sH
          · rw [List.mem_singleton.mp hz]
            exact hv.same sH
        · refine iteF ?_
          exact ⟨_, _, rfl, sH.trans s5⟩
      · have hx0 := Same.put (o := .xd (fsOf ["line"] [u])) hd
        refine ⟨false, TM.ref8, (fun z => by cases z), fun _ => ⟨true, TM.mal8, fun _ a ha oe hz => ?_, fun z => by cases z⟩⟩
        refine ⟨_, rfl, _, rfl, by show 2 ≤ sizeLine; decide, fun l nl => ?_⟩
        have s4 := Same.put (o := .lst [.str "BadGate", u]) nl
        have sH := (s1.trans hx0).trans s4
        refine ⟨a, ca 8, d, l, fsOf ["line"] [u], row8, [u], rfl, by decide +kernel, TK.c row8 (by decide +kernel), ⟨.inl ⟨oe, rfl, hz⟩, s4 _ _ upd_same⟩, fs_one (r := row8) rfl u, upd_same, fun z hz => ?_, fun H5 s5 => ⟨_, rfl, ?_⟩⟩
        · rw [List.mem_singleton.mp hz]
          exact hu.same sH
        · refine iteF ?_
          exact ⟨_, _, rfl, sH.trans s5⟩
    · rintro σ H' ⟨x, y, rfl, s1⟩
      exact k H' s1
end
end K00
/-! part O00 -/
set_option Elab.async false
set_option linter.all false
set_option maxRecDepth 100000
set_option maxHeartbeats 4000000
namespace K00
open PySem L2 GX
def row0 : Row := ⟨"BadNumber", ["value"], ["Malformed", "ValueError"], 0⟩
/-- the call raises BadNumber(n) -/
def Bad0 (ca : Nat → Addr) (n : Int) (tl : XK → Hp → VK → Prop) (H : Hp) : Prop := ∀ (E : XK) (Q : VK), (∀ d, H d = none → E (.ref (ca 0)) (some d) (upd H d (.xd (vaF n)))) → tl E H Q
def TriedR (ca : Nat → Addr) (n : Int) (tl : XK → Hp → VK → Prop) : Hp → VK → Prop := fun H Q => Bad0 ca n tl H ∧ ∀ p H', Same H H' → H' p = some (.lst [.str "BadNumber", .int n]) → Q (.ref p) H'
def RefR (ca : Nat → Addr) (tl : XK → Hp → VK → Prop) : V → Hp → VK → Prop := fun v H Q => ∃ (l : Addr) (n : Int), v = .ref l ∧ H l = some (.lst [.str "BadNumber", .int n]) ∧ Bad0 ca n tl H ∧ ∀ H', Same H H' → Q (.bl true) H'
section
variable {P : Program} {w : World} {K : PySem.W.Frag} {mg : Str → Option Value} {base : Heap} {PR : Addr} {ca fa : Nat → Addr} {f f2 g : Addr} {fd fd2 : FuncData} {outer0 : List Env} {s0 : Shared} {H0 : Hp} {tl : XK → Hp → VK → Prop} {n : Int}
theorem tried_run (F : Fun K "_law_tried" "_law_tried" s_law_tried f fd) (TK : TxtK K ca) (TM : TxtM K mg ca) (g_law_parts_of : CalG P w K mg base 2 "_law_parts_of" 1 (spParts K ca)) {A : Around} {outer : List Env} (hr : Room 5 A) (Ac : Act P w K mg base 4 outer0 s0 H0 g tl)
    (hfo : ∀ b ∈ frs outer, b ∈ frs outer0 ∨ s0.heap.objs.size ≤ b) (s : Shared) (H : Hp) (Q : VK) (e0 : Env0 P w K mg base A outer s H) (un : Un (frs outer0) [] H0 H s0.heap s.heap) (h : TriedR ca n tl H Q) :
    codeAny (model P w) A (.call (.ref f) ⟨[.ref g], []⟩) (CR (L2N.CX P w) outer P w H s Q (fun _ _ _ => False)) s := by
  obtain ⟨hb, hk⟩ := h
  have bnd := F.binds (ps := ["call"]) (fun _ _ _ _ _ _ us hl => match us, hl with | [_], _ => rfl)
  obtain ⟨oc, od, kV, doc, pm, an, cdv, ct, osl, rfl, lk, hcd⟩ := F.ex
  have nd := sc_law_tried.nd
  have KX : K.In s.heap := e0.mod.kin.keeps fun b o e => (e0.bs b o e).1
  refine LamX.run_ofS (N := ["call", "e"]) (ps := ["call"]) (us := [.ref g]) (vs := [.ref g]) lk hcd sc_law_tried hr e0 (bnd s [.ref g] KX rfl) (.cons rfl .nil) rfl fun hr' => ?_
  have rh : ∀ a : Addr, L2H.RoomH 4 ((cxOf (L2N.CX P w) P w K mg base ["call", "e"] "_law_tried" (defScope s_law_tried) f cdv A outer s H (fun _ _ _ => False)).A.mark (some (.ref a))) := fun a => ⟨hr'.dp, hr'.un⟩
  refine ⟨_, pss_one (ps_tryA (Wout := W0) rfl rfl nd takes0N (fun W pn xe tk po => pss_one (ps_ret (pe_lst (pa_cons pe_str (pa_cons (pe_act3 (i := 0) Ac (fun pins σ H1 s1 I => reach_in un hfo I.base) tk hr' rfl (Or.inl rfl)) pa_nil)))))
      (.cons (i := 1) (.one ⟨rfl, by decide, .inl TM.g_Malformed⟩) rfl rfl (fun x oe cls d pn hz hf => pss_one (ps_ret (pn_gE g_law_parts_of hz hf (rh x) (by decide) rfl (pa_cons (pv 1) pa_nil))))
      (.cons (i := 1) (.one ⟨rfl, by decide, .inl TM.g_Refused⟩) rfl rfl (fun x oe cls d pn hz hf => pss_one (ps_ret (pn_gE g_law_parts_of hz hf (rh x) (by decide) rfl (pa_cons (pv 1) pa_nil))))
      (.cons (i := 1) (.two ⟨rfl, by decide, .inl TM.g_NoSuch⟩ ⟨rfl, by decide, .inl TM.g_Ended⟩) rfl rfl (fun x oe cls d pn hz hf => pss_one (ps_ret (pn_gE g_law_parts_of hz hf (rh x) (by decide) rfl (pa_cons (pv 1) pa_nil)))) .nil)))), ?_⟩
  refine ⟨rfl, hb _ _ fun d hd => ⟨true, TM.mal0, fun _ a ha oe hz => ?_, fun z => by cases z⟩⟩
  have hx0 := Same.put (o := .xd (vaF n)) hd
  exact ⟨_, rfl, a, ca 0, d, vaF n, row0, [.int n], rfl, by decide +kernel, TK.c row0 (by decide +kernel), ⟨.inl ⟨oe, rfl, hz⟩, upd_same⟩, rfl, fun p H' sH _ hp => hk p H' (hx0.trans sH) hp⟩
theorem refused_run (F : Fun K "_law_refused" "_law_refused" s_law_refused f fd) (F2 : Fun K "_law_tried" "_law_tried" s_law_tried f2 fd2) (hm2 : mg "_law_tried" = some (.ref f2)) (TK : TxtK K ca) (TM : TxtM K mg ca) (g_law_parts_of : CalG P w K mg base 2 "_law_parts_of" 1 (spParts K ca))
    (g_law_like : CalG P w K mg base 3 "_law_like" 2 (spLike K 3)) {A : Around} (hr : Room 6 A) (g : Addr) (s0 : Shared) (H0 : Hp) (Q : VK) (tl : XK → Hp → VK → Prop) (v2 : V) (u2 : Value) (Ac : Act P w K mg base 4 outer0 s0 H0 g tl) (e0 : Env0 P w K mg base A outer0 s0 H0) (r2 : RelV v2 u2) (h : RefR ca tl v2 H0 Q) :
    codeAny (model P w) A (.call (.ref f) ⟨[.ref g, u2], []⟩) (CR (L2N.CX P w) outer0 P w H0 s0 Q (fun _ _ _ => False)) s0 := by
  obtain ⟨l, n, rfl, hl, hb, hq⟩ := h
  have bnd := F.binds (ps := ["call", "due"]) (fun _ _ _ _ _ _ us hl => match us, hl with | [_, _], _ => rfl)
  obtain ⟨oc, od, kV, doc, pm, an, cdv, ct, osl, rfl, lk, hcd⟩ := F.ex
  have nd := sc_law_refused.nd
  have KX : K.In s0.heap := e0.mod.kin.keeps fun b o e => (e0.bs b o e).1
  refine LamX.run_ofS (N := ["call", "due"]) (ps := ["call", "due"]) (us := [.ref g, u2]) (vs := [.ref g, .ref l]) lk hcd sc_law_refused hr e0 (bnd s0 [.ref g, u2] KX rfl) (.cons rfl (.cons r2 .nil)) rfl fun hr' => ?_
  have heat : Heat (cxOf (L2N.CX P w) P w K mg base ["call", "due"] "_law_refused" (defScope s_law_refused) f cdv A outer0 s0 H0 (fun _ _ _ => False)) 5 none := .inl ⟨rfl, rfl, rfl, hr'⟩
  refine ⟨_, pss_one (ps_ret (pn_g g_law_like heat (by decide) takes0N rfl (pa_cons (pe_on3 (g := f2) (outer0 := outer0) (s0 := s0) (H0 := H0) (R := TriedR ca n tl) (i := 0) (fun s H Q e1 un h => tried_run F2 TK TM g_law_parts_of hr' Ac (fun b hb => ?_) s H Q e1 un h) (fun pins σ H s I => I.base) hm2 F2.kp rfl rfl (Or.inl rfl)) (pa_cons (pv 1) pa_nil)))), ?_⟩
  · rcases List.mem_cons.mp hb with e | e
    · right
      rw [e]
      exact Nat.le_refl _
    · exact .inl e
  · exact ⟨rfl, hb, fun p H' sH hp => ⟨_, rfl, _, _, rfl, like_list hp (sH _ _ hl) (by show 2 < 1000; decide) (fun x hx => by
      rcases List.mem_cons.mp hx with rfl | hx
      · exact LkV.flat rfl
      · rw [List.mem_singleton.mp hx]
        exact LkV.flat rfl), hq _ sH⟩⟩
end
end K00
/-! part P00 -/
set_option Elab.async false
set_option linter.all false
set_option maxRecDepth 100000
set_option maxHeartbeats 4000000
namespace K00
open PySem L2 GX
/-- the lambdas' table -/
abbrev TL (TP : Addr) : List (Addr × Str) := [(TP, "_law_numbers_told.<locals>.<lambda>")]
/-- all but b and the tables is kept -/
def KpN (b : Addr) (H H' : Hp) : Prop := ∀ c u, H c = some u → c ≠ b → (∀ ps, u ≠ .tbl ps) → H' c = some u
theorem KpN.trans {b : Addr} {H H1 H2 : Hp} (a : KpN b H H1) (c : KpN b H1 H2) : KpN b H H2 := fun x u e ne n => c x u (a x u e ne n) ne n
theorem KpN.of {b : Addr} {H H' : Hp} (a : Kp b H H') : KpN b H H' := fun x u e ne _ => a x u e ne
theorem KpN.ext {b : Addr} {H H' : Hp} (a : LamX.ExtN H H') : KpN b H H' := fun x u e _ n => a x u e n
theorem JarAt.extN {H H' : Hp} {b : Addr} {n : Nat} (B : JarAt H b n) (s : LamX.ExtN H H') : JarAt H' b n := by
  obtain ⟨L, ns, i, c, l, st, cnt, h1, h2, h⟩ := B.ex
  exact ⟨L, ns, i, c, l, st, cnt, s _ _ h1 (fun ps z => by cases z), s _ _ h2 (fun ps z => by cases z), h⟩
theorem JarAt.tabs {H H' : Hp} {b TP : Addr} {n : Nat} {q : Str} (B : JarAt H b n) (k : Kp b H H') (t : LamX.Tabs [(TP, q)] H) : LamX.Tabs [(TP, q)] H' := by
  obtain ⟨L, ns, i, c, l, st, cnt, h1, _⟩ := B.ex
  intro p hp
  obtain ⟨ps, e1, e2, e3⟩ := t p hp
  refine ⟨ps, k _ _ e1 (fun e => ?_), e2, fun pos cv hc => ?_⟩
  · rw [e, h1] at e1
    cases e1
  · obtain ⟨c0, e4, e5⟩ := e3 pos cv hc
    refine ⟨c0, e4, k _ _ e5 fun e => ?_⟩
    rw [e, h1] at e5
    unfold LamX.CodeO at e5
    cases e5
theorem lam_bad {TP : Addr} {ca : Nat → Addr} {q : Str} {t : XK → TE} {σ : L2.St} {H : Hp} {Q : VK} {t2 : TA} (m : Int) (hT : LamX.Tabs (TL TP) H) (h2 : ∀ (H1 : Hp) (R : List V → Hp → Prop), R [.str "BadNumber", .int m] H1 → t2 σ H1 R)
    (hb : ∀ (H1 : Hp) (E : XK) (Q' : VK), (∀ d, H1 d = none → E (.ref (ca 0)) (some d) (upd H1 d (.xd (vaF m)))) → t E σ H1 Q') (k : ∀ H', LamX.ExtN H H' → LamX.Tabs (TL TP) H' → Q (.bl true) H') : tLam2 (TL TP) q (RefR ca) t (tLst t2) σ H Q :=
  ⟨hT, fun H1 c' eN T1 hc => h2 H1 _ ⟨by show 2 ≤ sizeLine; decide, fun l nl => ⟨l, m, rfl, upd_same, fun E Q' h => ⟨by rw [upd_ne (ne_of_none hc nl)]; exact hc, hb _ E Q' h⟩,
    fun H' s => k H' (eN.trans (LamX.ExtN.of fun b o e => s _ _ (Same.put nl _ _ e))) (T1.ext fun b o e => s _ _ (Same.put nl _ _ e))⟩⟩⟩
theorem fermat : ∀ p ∈ PL, ∀ r ∈ List.range 31, 0 < r → (r : Int) < p → pw p (r : Int) (p - 2).toNat * (r : Int) % p = 1 := by decide +kernel
theorem pw_one : ∀ p ∈ PL, pw p 1 (p - 2).toNat = 1 := by decide +kernel
theorem invT_pw {p n : Int} (hp : p ∈ PL) : invT p n = pw p (n % p) (p - 2).toNat := by
  unfold invT
  by_cases h : n % p = 1
  · rw [if_pos h, h, pw_one p hp]
  · rw [if_neg h]
theorem inv_one {p n : Int} (hp : p ∈ PL) (h : n % p ≠ 0) : pw p (n % p) (p - 2).toNat * n % p = 1 := by
  have h1 := PL_pos hp
  have h2 := emod_lt n (show 0 < p by omega)
  obtain ⟨r, hr⟩ := Int.eq_ofNat_of_zero_le h2.1
  have z := fermat p hp r (List.mem_range.mpr (by omega)) (by omega) (by omega)
  rw [Int.mul_emod, hr]
  have e : ((r : Nat) : Int) % p = n % p := by rw [← hr, Int.emod_emod]
  rw [Int.mul_emod, e, hr] at z
  exact z
def spNumbers (TP : Addr) : Sp := fun vs H Q _ => ∃ (b : Addr) (n : Nat), vs = [.ref b] ∧ JarAt H b n ∧ n < 80000000 ∧ LamX.Tabs (TL TP) H ∧ ∀ H', KpN b H H' → LamX.Tabs (TL TP) H' → JarAt H' b (n + 100) → Q (.bl true) H'
def spRedK (CN : Addr) : Sk := fun vs zs H Q E => ∃ p n : Int, vs = [] ∧ zs = [.int n, .int p] ∧ spReduced CN [.int p, .int n] H Q E
def spInvK (CN : Addr) : Sk := fun vs zs H Q E => ∃ p n : Int, vs = [] ∧ zs = [.int p, .int n] ∧ spInverse CN [.int p, .int n] H Q E
def spCheckK (CN : Addr) : Sk := fun vs zs H Q E => ∃ n : Int, vs = [] ∧ zs = [.int n] ∧ spCheck CN [.int n] H Q E
/-- a def whose code object stands at c -/
structure FunC (K : PySem.W.Frag) (x qual : Str) (st : Stmt) (f c : Addr) (fd : FuncData) : Prop where
  ex : ∃ (oc : Value) (od : Option Addr) (kV doc pm : Value) (an : Option Addr) (ct : Value) (osl : Array (Option Value)),
    fd = PySem.W.fnOf x qual (defArgs st) (defBody st) (defScope st) .none kV doc pm an (.ref c) ct ∧ K.lookup f = some ⟨oc, od, .func fd, osl⟩ ∧ PySem.W.codeIn K (.ref c) qual = true
  kp : PySem.W.keepIn K (.ref f) = true
section
variable {P : Program} {w : World} {K : PySem.W.Frag} {mg : Str → Option Value} {base : Heap} {PR : Addr} {ca : Nat → Addr} {f fr ft c TP : Addr} {fd fdr fdt : FuncData}
theorem ok_numbers (F : FunC K "_law_numbers_told" "_law_numbers_told" s_law_numbers_told f c fd) (T : Txt K mg PR) (TxK : TxtK K ca) (TM : TxtM K mg ca) (TB : LamX.TabB base mg c TP)
    (FR : Fun K "_law_refused" "_law_refused" s_law_refused fr fdr) (mREF : mg "_law_refused" = some (.ref fr)) (FT : Fun K "_law_tried" "_law_tried" s_law_tried ft fdt) (mTRI : mg "_law_tried" = some (.ref ft))
    (g_law_draw : CalN P w K mg base 1 "_law_draw" 2 [] (sk spDraw)) (g_law_pick : CalN P w K mg base 2 "_law_pick" 2 [] (sk (spPick K))) (g_law_big : CalN P w K mg base 2 "_law_big" 1 [] (sk spBig)) (g_law_no_prime : CalN P w K mg base 3 "_law_no_prime" 1 [] (sk spNoPrime)) (g_law_flip : CalN P w K mg base 1 "_law_flip" 2 [] (sk spFlip))
    (g_law_parts_of : CalG P w K mg base 2 "_law_parts_of" 1 (spParts K ca)) (g_law_like : CalG P w K mg base 3 "_law_like" 2 (spLike K 3))
    (g_check_prime : CalN P w K mg base 1 "check_prime" 1 [] (sk (spCheck (ca 0)))) (g_reduced : CalN P w K mg base 2 "reduced" 2 [] (sk (spReduced (ca 0)))) (g_inverse_number : CalN P w K mg base 3 "inverse_number" 2 [] (sk (spInverse (ca 0))))
    (g_check_prime_value : CalN P w K mg base 1 "check_prime" 0 ["value"] (spCheckK (ca 0))) (g_reduced_value_prime : CalN P w K mg base 2 "reduced" 0 ["value", "prime"] (spRedK (ca 0))) (g_inverse_number_prime_value : CalN P w K mg base 3 "inverse_number" 0 ["prime", "value"] (spInvK (ca 0))) :
    FnOk P w K mg base (L2N.CX P w) 7 f fd ["jar"] (spNumbers TP) := by
  obtain ⟨oc, od, kV, doc, pm, an, ct, osl, rfl, lk, hcd⟩ := F.ex
  refine fn_of lk hcd sc_law_numbers_told (fun vs H Q E h => ?_) fun A outer s H vs Q E hr h => ?_
  · obtain ⟨b, n, rfl, _⟩ := h
    rfl
  · obtain ⟨b, n, rfl, B, hn, hT, k⟩ := h
    have nd := sc_law_numbers_told.nd
    have heat : Heat (cxOf (L2N.CX P w) P w K mg base ["jar", "p", "n", "bad", "told"] "_law_numbers_told" (defScope s_law_numbers_told) f (.ref c) A outer s H E) 6 none := .inl ⟨rfl, rfl, rfl, hr⟩
    refine ⟨_, (pss_cons (ps_set (i := 1) nd rfl (Or.inr rfl) (pn_f g_law_pick hr (by decide) takes0N rfl (pa_cons (pv 0) (pa_cons (pe_lst (pa_cons pe_int (pa_cons pe_int (pa_cons pe_int (pa_cons pe_int (pa_cons pe_int (pa_cons pe_int (pa_cons pe_int (pa_cons pe_int (pa_cons pe_int (pa_cons pe_int (pa_cons pe_int pa_nil)))))))))))) pa_nil))))
    (pss_cons (ps_set (i := 2) nd rfl (Or.inr rfl) (pn_f g_law_big hr (by decide) takes0N rfl (pa_cons (pv 0) pa_nil)))
    (pss_cons (ps_if (pt_cmpR op_eq (pn_f g_law_draw hr (by decide) takes0N rfl (pa_cons (pv 0) (pa_cons pe_int pa_nil))) pe_int (nomark _))
      (pss_one (ps_set (i := 2) nd rfl (Or.inr rfl) (pe_op op_mul (pv 2) (pv 1))))
      pss_nil)
    (pss_cons (ps_set (i := 3) nd rfl (Or.inr rfl) (pn_f g_law_no_prime hr (by decide) takes0N rfl (pa_cons (pv 0) pa_nil)))
    (pss_cons (ps_if (PW.pt (pw_or (pt_not (pt_val (pn_g g_law_like heat (by omega) takes0N rfl (pa_cons (pn_f g_check_prime hr (by decide) takes0N rfl (pa_cons (pv 1) pa_nil)) (pa_cons (pv 1) pa_nil))))) (pw_or1 (pt_not (pt_val (pe_lam2 (k := 3) (T := TL TP) (P := TP) rfl mREF FR.kp (fun f s H Q tl v2 u2 Ac e0 r2 h => refused_run FR FT mTRI TxK TM g_law_parts_of g_law_like hr f s H Q tl v2 u2 Ac e0 r2 h) TB rfl (List.mem_singleton.mpr rfl) (fun p hp _ => by rw [List.mem_singleton.mp hp]; rfl) (show LamX.LamS (defScope s_law_numbers_told) _ from LamX.lamS_by (by decide +kernel)) rfl (fun _ _ _ _ _ => rfl) (fun A outer s H E f c' hr => (pn_f g_check_prime hr (by decide) lam_takes rfl (pa_cons (pv 3) pa_nil))) (pe_lst (pa_cons pe_str (pa_cons (pv 3) pa_nil)))))))))
      (pss_one (ps_ret pe_bl))
      pss_nil)
    (pss_cons (ps_if (PW.pt (pw_or (pt_not (pt_val (pn_g g_law_like heat (by omega) takes0N rfl (pa_cons (pn_f g_reduced hr (by decide) takes0N rfl (pa_cons (pv 1) (pa_cons (pv 2) pa_nil))) (pa_cons (pe_op op_mod (pe_callTy call_int1 rfl T.m_int (by decide +kernel) (pa_cons (pv 2) pa_nil)) (pv 1)) pa_nil))))) (pw_or (pt_not (pt_val (pn_g g_law_like heat (by omega) takes0N rfl (pa_cons (pn_fK0 g_reduced_value_prime hr (by decide) takes0N rfl (pk_cons (pv 2) (pk_cons (pv 1) pk_nil))) (pa_cons (pe_op op_mod (pe_callTy call_int1 rfl T.m_int (by decide +kernel) (pa_cons (pv 2) pa_nil)) (pv 1)) pa_nil))))) (pw_or1 (pt_not (pt_val (pe_lam2 (k := 3) (T := TL TP) (P := TP) rfl mREF FR.kp (fun f s H Q tl v2 u2 Ac e0 r2 h => refused_run FR FT mTRI TxK TM g_law_parts_of g_law_like hr f s H Q tl v2 u2 Ac e0 r2 h) TB rfl (List.mem_singleton.mpr rfl) (fun p hp _ => by rw [List.mem_singleton.mp hp]; rfl) (show LamX.LamS (defScope s_law_numbers_told) _ from LamX.lamS_by (by decide +kernel)) rfl (fun _ _ _ _ _ => rfl) (fun A outer s H E f c' hr => (pn_f g_reduced hr (by decide) lam_takes rfl (pa_cons (pv 3) (pa_cons (pv 2) pa_nil)))) (pe_lst (pa_cons pe_str (pa_cons (pv 3) pa_nil))))))))))
      (pss_one (ps_ret pe_bl))
      pss_nil)
    (pss_cons (ps_if (pt_not (pt_val (pe_lam2 (k := 3) (T := TL TP) (P := TP) rfl mREF FR.kp (fun f s H Q tl v2 u2 Ac e0 r2 h => refused_run FR FT mTRI TxK TM g_law_parts_of g_law_like hr f s H Q tl v2 u2 Ac e0 r2 h) TB rfl (List.mem_singleton.mpr rfl) (fun p hp _ => by rw [List.mem_singleton.mp hp]; rfl) (show LamX.LamS (defScope s_law_numbers_told) _ from LamX.lamS_by (by decide +kernel)) rfl (fun _ _ _ _ _ => rfl) (fun A outer s H E f c' hr => (pn_f g_inverse_number hr (by decide) lam_takes rfl (pa_cons (pv 3) (pa_cons (pe_op op_mul (pv 2) (pv 1)) pa_nil)))) (pe_lst (pa_cons pe_str (pa_cons (pv 3) pa_nil))))))
      (pss_one (ps_ret pe_bl))
      pss_nil)
    (pss_cons (ps_if (pt_cmpR op_eq (pe_op op_mod (pe_callTy call_int1 rfl T.m_int (by decide +kernel) (pa_cons (pv 2) pa_nil)) (pv 1)) pe_int (nomark _))
      (pss_one (ps_ret (pe_lam2 (k := 3) (T := TL TP) (P := TP) rfl mREF FR.kp (fun f s H Q tl v2 u2 Ac e0 r2 h => refused_run FR FT mTRI TxK TM g_law_parts_of g_law_like hr f s H Q tl v2 u2 Ac e0 r2 h) TB rfl (List.mem_singleton.mpr rfl) (fun p hp _ => by rw [List.mem_singleton.mp hp]; rfl) (show LamX.LamS (defScope s_law_numbers_told) _ from LamX.lamS_by (by decide +kernel)) rfl (fun _ _ _ _ _ => rfl) (fun A outer s H E f c' hr => (pn_f g_inverse_number hr (by decide) lam_takes rfl (pa_cons (pv 1) (pa_cons (pv 2) pa_nil)))) (pe_lst (pa_cons pe_str (pa_cons (pv 2) pa_nil))))))
      pss_nil)
    (pss_cons (ps_set (i := 4) nd rfl (Or.inl rfl) (pn_fK0 g_inverse_number_prime_value hr (by decide) takes0N rfl (pk_cons (pv 1) (pk_cons (pv 2) pk_nil))))
    (pss_one (ps_ret (pe_and (pn_g g_law_like heat (by omega) takes0N rfl (pa_cons (pv 4) (pa_cons (pn_f g_law_flip hr (by decide) takes0N rfl (pa_cons (pv 1) (pa_cons (pe_op op_mod (pe_callTy call_int1 rfl T.m_int (by decide +kernel) (pa_cons (pv 2) pa_nil)) (pv 1)) pa_nil))) pa_nil))) (pe_and (pe_cmpR op_eq (pe_op op_mod (pe_callTy call_int1 rfl T.m_int (by decide +kernel) (pa_cons (pe_op op_mul (pv 4) (pv 2)) pa_nil)) (pv 1)) pe_int (nomark _)) (pe_one (pn_g g_law_like heat (by omega) takes0N rfl (pa_cons (pn_fK0 g_check_prime_value hr (by decide) takes0N rfl (pk_cons (pv 1) pk_nil)) (pa_cons (pv 1) pa_nil))))))))))))))))), ?_⟩
    refine ⟨_, rfl, by show 11 ≤ sizeLine; decide, fun pl npl => ⟨rfl, b, pl, n, _, rfl, B.same (Same.put npl), by omega, upd_same, (B.ne npl).symm, by decide, by decide, fun x H1 hx k1 B1 => ?_⟩⟩
    obtain ⟨p, rfl, hp⟩ : ∃ p : Int, x = .int p ∧ p ∈ PL := by
      obtain ⟨p, hp, e⟩ := List.mem_map.mp (show x ∈ PL.map V.int from hx)
      exact ⟨p, e.symm, hp⟩
    have kk1 : Kp b H H1 := Kp.of_same npl k1
    have h1 := PL_pos hp
    refine gnm ?_
    refine ⟨_, rfl, rfl, b, n + 1, rfl, B1, by omega, fun r H2 k2 B2 => ?_⟩
    refine gnm ?_
    with_reducible conv => whnf
    refine seq_cut (fun σ H3 => ∃ m : Int, σ = [some (.ref b), some (.int p), some (.int m), none, none] ∧ Kp b H H3 ∧ JarAt H3 b (n + 25)) ?_ fun tail => ?_
    · rintro σ H3 ⟨m, rfl, k3, B3⟩
      refine ⟨_, rfl, rfl, b, n + 25, rfl, B3, by omega, fun q H4 hq k4 B4 => ?_⟩
      refine gnm ?_
      have kk4 := k3.trans k4
      have T4 := B.tabs kk4 hT
      have b0 : ∀ (H1 : Hp) (E : XK) (Q' : VK), (∀ d, H1 d = none → E (.ref (ca 0)) (some d) (upd H1 d (.xd (vaF q)))) → ∀ d, H1 d = none → E (.ref (ca 0)) (some d) (upd H1 d (.xd (vaF q))) := fun _ _ _ h => h
      refine ⟨_, rfl, rfl, p, rfl, fun _ => ⟨_, rfl, _, _, rfl, LkV.flat rfl, ⟨_, rfl, iteF ?_⟩⟩, fun h => (h hp).elim⟩
      refine lam_bad q T4 (fun _ _ r => ⟨_, rfl, r⟩) (fun H1 E Q' h => ⟨_, rfl, rfl, q, rfl, fun h => absurd h hq, fun _ => h⟩) fun H5 e5 T5 => ⟨_, rfl, iteF (nxt ?_)⟩
      refine ⟨_, rfl, _, rfl, rfl, p, m, rfl, fun _ => ⟨_, rfl, .inl ⟨_, rfl, _, rfl, _, _, rfl, rfl, (by show 0 < p; omega), ⟨_, _, rfl, LkV.flat rfl, ⟨_, rfl, iteF ?_⟩⟩⟩⟩, fun h => (h hp).elim⟩
      refine ⟨_, rfl, _, rfl, p, m, rfl, rfl, p, m, rfl, fun _ => ⟨_, rfl, .inl ⟨_, rfl, _, rfl, _, _, rfl, rfl, (by show 0 < p; omega), ⟨_, _, rfl, LkV.flat rfl, ⟨_, rfl, iteF ?_⟩⟩⟩⟩, fun h => (h hp).elim⟩
      refine lam_bad q T5 (fun _ _ r => ⟨_, rfl, r⟩) (fun H1 E Q' h => ⟨_, rfl, _, rfl, rfl, q, m, rfl, fun h => absurd h hq, fun _ => h⟩) fun H6 e6 T6 => ⟨_, rfl, iteF (nxt ?_)⟩
      refine lam_bad q T6 (fun _ _ r => ⟨_, rfl, r⟩) (fun H1 E Q' h => ⟨_, rfl, _, rfl, _, rfl, _, _, rfl, rfl, .inr ⟨by omega, by omega⟩, rfl, q, _, rfl, fun h => absurd h hq, fun _ => h, fun h => absurd h hq⟩) fun H7 e7 T7 => ⟨_, rfl, iteF (nxt ?_)⟩
      have e47 := (e5.trans e6).trans e7
      have B7 := (B4.extN e47)
      have kn7 : KpN b H H7 := (KpN.of kk4).trans (KpN.ext e47)
      refine ⟨_, rfl, .inl ⟨_, rfl, _, rfl, _, _, rfl, rfl, (by show 0 < p; omega), ?_⟩⟩
      refine ⟨rfl, _, rfl, ?_⟩
      refine ite2 (fun hz => ?_) (fun hz => ?_)
      · have hz' : m % p = 0 := by simpa using hz
        exact lam_bad m T7 (fun _ _ r => ⟨_, rfl, r⟩) (fun H1 E Q' h => ⟨_, rfl, _, rfl, rfl, p, m, rfl, fun _ h' => absurd hz' h', fun h => (h hp).elim, fun _ _ => h⟩) fun H8 e8 T8 => k _ (kn7.trans (KpN.ext e8)) T8 ((B7.extN e8).mono (by omega))
      · have hz' : ¬ m % p = 0 := by simpa using hz
        refine nxt ?_
        refine ⟨_, rfl, _, rfl, p, m, rfl, rfl, p, m, rfl, fun _ _ => ?_, fun h => (h hp).elim, fun _ h' => (hz' h').elim⟩
        rw [invT_pw hp]
        have w1 := pw_lt p (m % p) h1.1 (p - 2).toNat
        refine ⟨_, rfl, _, rfl, _, rfl, .inl ⟨_, rfl, _, rfl, _, _, rfl, rfl, (by show 0 < p; omega), rfl, p, _, rfl, h1.1, by omega, ⟨_, _, rfl, LkV.flat rfl, ⟨_, rfl, iteT ?_⟩⟩⟩⟩
        refine ⟨_, rfl, _, rfl, _, _, rfl, rfl, .inl ⟨by omega, by omega⟩, .inl ⟨_, rfl, _, rfl, _, _, rfl, rfl, (by show 0 < p; omega), ?_⟩⟩
        refine ⟨rfl, _, rfl, ite2 (fun _ => ?_) (fun h => ?_)⟩
        · exact ⟨_, rfl, p, rfl, rfl, p, rfl, fun _ => ⟨_, rfl, _, _, rfl, LkV.flat rfl, k _ kn7 T7 (B7.mono (by omega))⟩, fun h => (h hp).elim⟩
        · refine absurd ?_ h
          show decide (V.int (pw p (m % p) (p - 2).toNat * m % p) = V.int 1) = true
          rw [inv_one hp hz']
          exact decide_eq_true rfl
    · refine ⟨_, rfl, rfl, b, n + 21, 5, rfl, B2, by omega, by decide, by decide, fun r3 H3 _ _ k3 B3 => ⟨rfl, _, rfl, ?_⟩⟩
      have kk3 := (kk1.trans k2).trans k3
      refine ite2 (fun h => ?_) (fun h => ?_)
      · refine ⟨_, rfl, _, rfl, _, _, rfl, rfl, .inr ⟨by omega, by omega⟩, gnm ?_⟩
        exact tail _ _ ⟨_, rfl, kk3, B3.mono (by omega)⟩
      · refine nxt ?_
        exact tail _ _ ⟨_, rfl, kk3, B3.mono (by omega)⟩
end
end K00
/-! part Q00 -/
set_option Elab.async false
set_option linter.all false
set_option maxRecDepth 100000
set_option maxHeartbeats 4000000
namespace K00
open PySem L2 GX
def spLaw (K : PySem.W.Frag) (TP : Addr) : Sp := fun vs H Q _ => ∃ (a : Addr) (ns : List Int), vs = [.ref a] ∧ SqL K H a (ns.map V.int) ∧ LamX.Tabs (TL TP) H ∧ ∀ H', Q (.bl true) H'
theorem JarAt.kpN {H H' : Hp} {b : Addr} {n m : Nat} (B : JarAt H' b n) (h : n ≤ m) : JarAt H' b m := B.mono h
theorem Th.kp {H H' : Hp} {b : Addr} {n : Nat} {u : V} (h : Th H u) (k : Kp b H H') (B : JarAt H b n) : Th H' u := h.imp id fun ⟨t, e, q⟩ => ⟨t, e, k _ _ q (B.neT q)⟩
section
variable {P : Program} {w : World} {K : PySem.W.Frag} {mg : Str → Option Value} {base : Heap} {PR CN fN TP : Addr} {f : Addr} {fd : FuncData}
theorem ok_law (F : Fun K "law" "law" s_law f fd) (T : Txt K mg PR) (TN : TxtN P w K mg PR CN fN) (g_law_jar : CalN P w K mg base 1 "_law_jar" 1 [] (sk (spJar K))) (g_law_like : CalG P w K mg base 3 "_law_like" 2 (spLike K 3))
    (g_law_bounds_told : CalN P w K mg base 4 "_law_bounds_told" 0 [] (sk spBounds)) (g_law_numbers_told : CalN P w K mg base 7 "_law_numbers_told" 1 [] (sk (spNumbers TP))) (g_law_drawn_thing : CalN P w K mg base 3 "_law_drawn_thing" 1 [] (sk spThing))
    (g_law_one_field : CalN P w K mg base 5 "_law_one_field" 1 [] (sk spOne)) (g_law_two_fields : CalN P w K mg base 5 "_law_two_fields" 2 [] (sk spTwo)) (g_law_caught_by_bases : CalN P w K mg base 5 "_law_caught_by_bases" 2 [] (sk spTwo)) :
    FnOk P w K mg base (L2N.CX P w) 8 f fd ["script"] (spLaw K TP) := by
  obtain ⟨oc, od, kV, doc, pm, an, cdv, ct, osl, rfl, lk, hcd⟩ := F.ex
  refine fn_of lk hcd sc_law (fun vs H Q E h => ?_) fun A outer s H vs Q E hr h => ?_
  · obtain ⟨a, ns, rfl, _⟩ := h
    rfl
  · obtain ⟨a, ns, rfl, hS, hT, k⟩ := h
    have nd := sc_law.nd
    have heat : Heat (cxOf (L2N.CX P w) P w K mg base ["script", "jar", "turn", "u", "v"] "law" (defScope s_law) f cdv A outer s H E) 7 none := .inl ⟨rfl, rfl, rfl, hr⟩
    refine ⟨_, (pss_cons (ps_set (i := 1) nd rfl (Or.inl rfl) (pn_f g_law_jar hr (by decide) takes0N rfl (pa_cons (pv 0) pa_nil)))
    (pss_cons (ps_if (PW.pt (pw_or (pt_not (pt_val (pn_g g_law_like heat (by omega) takes0N rfl (pa_cons (pe_glob (v := .ref PR) (u := .ref PR) rfl T.m_PRIMES rfl) (pa_cons (pe_tup (pa_cons pe_int (pa_cons pe_int (pa_cons pe_int (pa_cons pe_int (pa_cons pe_int (pa_cons pe_int (pa_cons pe_int (pa_cons pe_int (pa_cons pe_int (pa_cons pe_int (pa_cons pe_int pa_nil)))))))))))) pa_nil))))) (pw_or1 (pt_not (pt_val (pn_f0 g_law_bounds_told hr (by decide) takes0N rfl))))))
      (pss_one (ps_ret pe_bl))
      pss_nil)
    (pss_cons (ps_for (passes_of rfl) rfl (pi_range1 rfl T.m_range (pa_cons pe_int pa_nil)) (pg_name (i := 2) nd rfl (Or.inl rfl))
      (pss_one (ps_if (pt_not (pt_val (pn_f g_law_numbers_told hr (by decide) takes0N rfl (pa_cons (pv 1) pa_nil))))
        (pss_one (ps_ret pe_bl))
        pss_nil)))
    (pss_cons (ps_for (passes_of rfl) rfl (pi_range1 rfl T.m_range (pa_cons pe_int pa_nil)) (pg_name (i := 2) nd rfl (Or.inl rfl))
      (pss_cons (ps_set (i := 3) nd rfl (Or.inl rfl) (pn_f g_law_drawn_thing hr (by decide) takes0N rfl (pa_cons (pv 1) pa_nil)))
      (pss_cons (ps_set (i := 4) nd rfl (Or.inl rfl) (pn_f g_law_drawn_thing hr (by decide) takes0N rfl (pa_cons (pv 1) pa_nil)))
      (pss_one (ps_if (PW.pt (pw_or (pt_not (pt_val (pn_f g_law_one_field hr (by decide) takes0N rfl (pa_cons (pv 3) pa_nil)))) (pw_or (pt_not (pt_val (pn_f g_law_two_fields hr (by decide) takes0N rfl (pa_cons (pv 3) (pa_cons (pv 4) pa_nil))))) (pw_or1 (pt_not (pt_val (pn_f g_law_caught_by_bases hr (by decide) takes0N rfl (pa_cons (pv 3) (pa_cons (pv 4) pa_nil)))))))))
        (pss_one (ps_ret pe_bl))
        pss_nil)))))
    (pss_one (ps_ret pe_bl)))))), ?_⟩
    refine ⟨_, rfl, rfl, a, ns, rfl, hS, fun b H1 s1 nb B1 => ?_⟩
    refine gnm ?_
    have T1 : LamX.Tabs (TL TP) H1 := hT.ext s1
    refine ⟨by show 11 ≤ sizeLine; decide, fun t nt => ⟨_, _, rfl, .inr ⟨false, PR, t, PL.map V.int, PL.map V.int, rfl, rfl, .inr TN.k_PRIMES, .inl upd_same, rfl, by decide, fun i x y h1 h2 => ?_⟩, ⟨_, rfl, iteF ?_⟩⟩⟩
    · rw [h1] at h2
      cases h2
      refine LkV.flat ?_
      obtain ⟨z, _, e⟩ := List.mem_map.mp (List.mem_of_getElem? h1)
      rw [← e]
      rfl
    have st : Same H1 (upd H1 t (.tup (PL.map V.int))) := Same.put nt
    refine ⟨rfl, rfl, fun H2 s2 => ⟨_, rfl, iteF (nxt ?_)⟩⟩
    have s12 := st.trans s2
    have B2 := B1.same s12
    have T2 := T1.ext s12
    refine for_rngL (fun i σ H' => ∃ y, σ = [some (.ref a), some (.ref b), y, none, none] ∧ JarAt H' b (100 * i) ∧ LamX.Tabs (TL TP) H') (by decide) (by decide) ⟨none, rfl, B2, T2⟩ ?_ ?_
    · rintro i σ H3 hi ⟨y, rfl, B3, T3⟩
      have hi2 : i < 6 := hi
      refine gnm ?_
      refine ⟨_, rfl, rfl, b, 100 * i, rfl, B3, by omega, T3, fun H4 _ T4 B4 => ⟨_, rfl, iteF (nxt ?_)⟩⟩
      exact ⟨_, rfl, B4.mono (by omega), T4⟩
    · rintro σ H3 ⟨y, rfl, B3, T3⟩
      have B3' : JarAt H3 b 600 := B3
      refine for_rngL (fun i σ H' => ∃ y u v, σ = [some (.ref a), some (.ref b), y, u, v] ∧ JarAt H' b (600 + 60 * i)) (by decide) (by decide) ⟨y, none, none, rfl, B3'⟩ ?_ ?_
      · rintro i σ H4 hi ⟨y, u0, v0, rfl, B4⟩
        have hi2 : i < 2 := hi
        refine gnm ?_
        refine ⟨_, rfl, rfl, b, 600 + 60 * i, rfl, B4, by omega, fun u H5 hu k5 B5 => ?_⟩
        refine gnm ?_
        refine ⟨_, rfl, rfl, b, 630 + 60 * i, rfl, B5.mono (by omega), by omega, fun v H6 hv k6 B6 => ?_⟩
        refine gnm ?_
        have hu6 : Th H6 u := hu.kp k6 B5
        refine ⟨_, rfl, rfl, u, rfl, hu6, fun H7 s7 => ⟨_, rfl, iteF ?_⟩⟩
        refine ⟨_, rfl, _, rfl, rfl, u, v, rfl, hu6.same s7, hv.same s7, fun H8 s8 => ⟨_, rfl, iteF ?_⟩⟩
        refine ⟨_, rfl, _, rfl, rfl, u, v, rfl, (hu6.same s7).same s8, (hv.same s7).same s8, fun H9 s9 => ⟨_, rfl, iteF (nxt ?_)⟩⟩
        exact ⟨_, _, _, rfl, (B6.same ((s7.trans s8).trans s9)).mono (by omega)⟩
      · rintro σ H4 ⟨y, u0, v0, rfl, B4⟩
        exact k H4
end
end K00
/-! part U00 -/
set_option Elab.async false
set_option linter.all false
set_option maxRecDepth 100000
set_option maxHeartbeats 4000000
namespace GX
open PySem PySem.W PySem.Spec PyProof.Rows L2
/-! the facts that the head has left, gathered -/
structure DefAt (K : Frag) (mg : Str → Option Value) (x : Str) (st : Stmt) : Prop where
  ex : ∃ f fd, L2.Fun K x x st f fd ∧ mg x = some (.ref f)
section
variable {K : Frag} {h : Heap} {mg : Str → Option Value}
theorem def_mk {x : Str} {st : Stmt} {f : Addr} {oc : Value} {od an : Option Addr} {osl : Array (Option Value)} {kV doc pm cdv ct : Value} (X : K.In h) (G : h.Ns mainGlobals mg) (a : nsIn K mainGlobals x = some (some (.ref f)))
    (l : K.lookup f = some ⟨oc, od, .func (fnOf x x (defArgs st) (defBody st) (defScope st) .none kV doc pm an cdv ct), osl⟩) (c : codeIn K cdv x = true) (k : keepIn K (.ref f) = true) : DefAt K mg x st :=
  ⟨f, _, fun_mk l c k, mg_of X G a⟩
end
section
variable {P : Program} {w : World} {K : Frag} {mg : Str → Option Value} {base : Heap}
theorem cal_mk {x : Str} {st : Stmt} {k n : Nat} {ps : List Str} {sp : Sp} (D : DefAt K mg x st) (ok : ∀ f fd, L2.Fun K x x st f fd → FnOk P w K mg base CX0 k f fd ps sp) (hn : ps.length = n)
    (bp : ∀ (kV doc pm : Value) (an : Option Addr) (cdv ct : Value) (us : List Value), us.length = ps.length → bindArgs (fnOf x x (defArgs st) (defBody st) (defScope st) .none kV doc pm an cdv ct) ⟨us, []⟩ = pure (ps.zip us)) : CalN P w K mg base k x n [] (sk sp) := by
  obtain ⟨f, fd, F, hm⟩ := D.ex
  exact ⟨f, hm, F.kp, calK_of (FnOk.up (ok f fd F)) (F.binds bp) hn⟩
theorem cal_mkN {x : Str} {st : Stmt} {k n : Nat} {ps : List Str} {sp : Sp} (D : DefAt K mg x st) (ok : ∀ f fd, L2.Fun K x x st f fd → FnOk P w K mg base (L2N.CX P w) k f fd ps sp) (hn : ps.length = n)
    (bp : ∀ (kV doc pm : Value) (an : Option Addr) (cdv ct : Value) (us : List Value), us.length = ps.length → bindArgs (fnOf x x (defArgs st) (defBody st) (defScope st) .none kV doc pm an cdv ct) ⟨us, []⟩ = pure (ps.zip us)) : CalN P w K mg base k x n [] (sk sp) := by
  obtain ⟨f, fd, F, hm⟩ := D.ex
  exact ⟨f, hm, F.kp, calK_of (ok f fd F) (F.binds bp) hn⟩
theorem calG_mk {x : Str} {st : Stmt} {k n : Nat} {ps : List Str} {sp : SpG} (D : DefAt K mg x st) (ok : ∀ f fd, L2.Fun K x x st f fd → FnG P w K mg base k f fd ps sp) (hn : ps.length = n)
    (bp : ∀ (kV doc pm : Value) (an : Option Addr) (cdv ct : Value) (us : List Value), us.length = ps.length → bindArgs (fnOf x x (defArgs st) (defBody st) (defScope st) .none kV doc pm an cdv ct) ⟨us, []⟩ = pure (ps.zip us)) : CalG P w K mg base k x n sp := by
  obtain ⟨f, fd, F, hm⟩ := D.ex
  exact ⟨f, fd, ps, hm, F.kp, F.binds bp, hn, ok f fd F⟩
/-- keywords alone: gV, gU put them in order -/
theorem cal_mkK {x : Str} {st : Stmt} {k : Nat} {ps ks : List Str} {sp : Sp} {gV : List V → List V} {gU : List Value → List Value} (D : DefAt K mg x st) (ok : ∀ f fd, L2.Fun K x x st f fd → FnOk P w K mg base (L2N.CX P w) k f fd ps sp)
    (rel : ∀ {zs : List V} {ws : List Value}, Vals zs ws → Vals (gV zs) (gU ws))
    (bp : ∀ (kV doc pm : Value) (an : Option Addr) (cdv ct : Value) (ws : List Value), ws.length = ks.length → bindArgs (fnOf x x (defArgs st) (defBody st) (defScope st) .none kV doc pm an cdv ct) ⟨[], ks.zip ws⟩ = pure (ps.zip (gU ws))) :
    CalN P w K mg base k x 0 ks (fun vs zs H Q E => vs.length = 0 ∧ zs.length = ks.length ∧ sp (gV zs) H Q E) := by
  obtain ⟨f, fd, F, hm⟩ := D.ex
  refine ⟨f, hm, F.kp, calK_kw (g := fun _ ws => gU ws) (gV := fun _ zs => gV zs) (ok f fd F) ⟨fun s us ws X l1 l2 => ?_, fun _ r => rel r⟩⟩
  obtain ⟨oc, od, kV, doc, pm, an, cdv, ct, osl, rfl, lk, hcd⟩ := F.ex
  have e : us = [] := List.length_eq_zero_iff.mp l1
  subst e
  exact .of_eq (bp kV doc pm an cdv ct ws l2)
end
/-- an own class, its mro -/
structure ClsM (K : Frag) (mg : Str → Option Value) (x : Str) (C : Addr) (mro : List Value) : Prop where
  g : mg x = some (.ref C)
  cd : ∃ cd, clsIn K C = some cd ∧ cd.mro = mro ∧ cd.hasDict = true
  ty : typeIn K (.ref C) = some (.type "type")
section
variable {K : Frag} {h : Heap} {mg : Str → Option Value} {x x' : Str} {C C' : Addr} {mro mro' : List Value}
theorem clsM_mk {cd : ClassData} (X : K.In h) (G : h.Ns mainGlobals mg) (a : nsIn K mainGlobals x = some (some (.ref C))) (e : clsIn K C = some cd) (ty : typeIn K (.ref C) = some (.type "type")) (hm : cd.mro = mro) (hd : cd.hasDict = true) : ClsM K mg x C mro := ⟨mg_of X G a, ⟨cd, e, hm, hd⟩, ty⟩
theorem ClsM.sub (c : ClsM K mg x C mro) (ne : mro.isEmpty = false) (u : Value) : subIn K (.ref C) u = some (mro.contains u) := by
  obtain ⟨cd, e, hm, _⟩ := c.cd
  show mroIn K C u = _
  unfold mroIn
  rw [e]
  show (if cd.mro.isEmpty then none else some (cd.mro.contains u)) = _
  rw [hm, if_neg (by rw [ne]; decide)]
theorem ClsM.hd (c : ClsM K mg x C mro) : hasDictIn K C = true := by
  obtain ⟨cd, e, _, h⟩ := c.cd
  unfold hasDictIn
  rw [e]
  exact h
theorem ClsM.is (c : ClsM K mg x C mro) : (clsIn K C).isSome = true := by
  obtain ⟨cd, e, _⟩ := c.cd
  rw [e]
  rfl
theorem ClsM.kitC (c : ClsM K mg x C mro) (ne : mro.isEmpty = false) (c' : ClsM K mg x' C' mro') : kitCls K (.ref C) (.ref C') = some (mro.contains (.ref C')) := by
  show (if ((clsIn K C').isSome && typeIn K (.ref C') == some (.type "type")) = true then subIn K (.ref C) (.ref C') else none) = _
  rw [c'.is, c'.ty, if_pos (by simp), c.sub ne]
theorem kit_self {t c : Value} {m : List Value} (hs : t ∈ m) (h : kitCls K t c = some (m.contains c)) : kitOne K t c = some (m.contains c) := by
  unfold kitOne
  by_cases e : (t == c) = true
  · rw [if_pos e]
    have z := eq_of_beq e
    subst z
    rw [show m.contains t = true from by simpa using hs]
  · rw [if_neg e, h]
theorem ClsM.kit {r : List Value} (c : ClsM K mg x C (.ref C :: r)) (c' : ClsM K mg x' C' mro') : kitOne K (.ref C) (.ref C') = some ((Value.ref C :: r).contains (.ref C')) := kit_self List.mem_cons_self (c.kitC rfl c')
theorem ClsM.kitT {r : List Value} {T : String} (c : ClsM K mg x C (.ref C :: r)) (m : kitMeta T = true) : kitOne K (.ref C) (.type T) = some ((Value.ref C :: r).contains (.type T)) := kit_self List.mem_cons_self (by
  show (if kitMeta T = true then subIn K (.ref C) (.type T) else none) = _
  rw [if_pos m, c.sub rfl])
theorem ClsM.exm {r r' : List Value} (c : ClsM K mg x C (.ref C :: r)) (c' : ClsM K mg x' C' (.ref C' :: r')) (hb : (Value.ref C' :: r').contains (.type "BaseException") = true) : exmOne K (.ref C) (.ref C') = some ((Value.ref C :: r).contains (.ref C')) := by
  unfold exmOne
  rw [c'.sub rfl, hb]
  exact (if_pos (by decide)).trans (c.kitC rfl c')
theorem ClsM.xk {r : List Value} (c : ClsM K mg x C (.ref C :: r)) (hb : (Value.ref C :: r).contains (.type "BaseException") = true) (ho : (Value.ref C :: r).contains (.type "object") = true) (ga : findIn K (.ref C) "__getattribute__" = some (some (.builtin "BaseException.__getattribute__"))) (gg : findIn K (.ref C) "__getattr__" = some none)
    (ha : findIn K (.ref C) "__class__" = some (some (.builtin "object.__class__"))) (hn : specialIn K (.builtin "object.__class__") "__get__" = some (some (.builtin "getset_descriptor.__get__"))) (ht : takesIn K (.builtin "object.__class__") = some true) : ExK K C :=
  ⟨c.is, ga, gg, by rw [c.sub rfl, hb], c.hd, ha, hn, ht, by have z := c.sub rfl (.type "object"); rw [ho] at z; exact z⟩
/-- what an exception class with one field or two asks -/
theorem exj_mk {prog : Program} {B newId initId : String} {bmB : List Value} {fI cda cc : Addr} {fl : List Str} {st : Stmt} {oc ccl cl doc pm ct : Value} {od an cdd cld : Option Addr} {osl ccs csl : Array (Option Value)} {vs : Array Value} {qual file : Str} {tf : Tok} {ar : Arg} {p0 p1 p2 p3 p4 p5 : Pos} {j : Nat} {m : Str} {r : List Value} (a1 : Asg) (ar2 : List Asg)
    (efl : (a1 :: ar2).map (·.1) = fl) (X : K.In h) (G : h.Ns mainGlobals mg) (c : ClsM K mg x C (.ref C :: r)) (at_ : findIn K (.ref C) "__init__" = some (some (.ref fI))) (fn : isFn K (.ref fI) = true)
    (l : K.lookup fI = some ⟨oc, od, .func (ksFn "__init__" qual (defArgs st) (defBody st) (defScope st) .none .none doc pm an (.ref cda) ct cc), osl⟩) (lc : codeIn K (.ref cda) qual = true)
    (ld : K.lookup cda = some ⟨ccl, cdd, .fields vs, ccs⟩) (lcc : K.lookup cc = some ⟨cl, cld, .cell (some (.ref C)), csl⟩)
    (q : excInitIn K C bmB newId = true) (ov : excOver K C bmB = true) (sa : findIn K (.ref C) "__setattr__" = some (some (.builtin "object.__setattr__"))) (no : ∀ f ∈ fl, findIn K (.ref C) f = some none)
    (sup : ks_superIn K C C "__init__" = some (some (.builtin initId))) (kC : keepIn K (.ref C) = true) (opq : nsIn K cStatics "thirdparty.any" = some none) (ns : nsIn K mainGlobals "super" = some none)
    (bE : (Value.ref C :: r).contains (.type "BaseException") = true) (bB : (Value.ref C :: r).contains (.type B) = true)
    (hvs : vs[2]? = some (.str file tf)) (hfile : ((prog.main.file : Str) == file) = true) (hb : defBody st = exJ p0 p1 p2 p3 p4 p5 j m (a1 :: ar2)) (top : (prog.main.scope.names.lookup ("super" : Str)).isSome = false) (nd : (("self" : Str) :: fl).Nodup) (len : fl.length ≤ 2) (fdb : ∀ f ∈ fl, (f == ("__debug__" : Str)) = false)
    (hhd : ((defArgs st).posonlyargs ++ (defArgs st).args).head? = some ar) (har : ar.arg = "self")
    (bi : ∀ us : List Value, us.length = 1 + fl.length → bindArgs (ksFn "__init__" qual (defArgs st) (exJ p0 p1 p2 p3 p4 p5 j m (a1 :: ar2)) (defScope st) .none .none doc pm an (.ref cda) ct cc) ⟨us, []⟩ = pure ((("self" : Str) :: fl).zip us))
    (bk : ∀ (a : Value) (us : List Value), us.length = fl.length → bindArgs (ksFn "__init__" qual (defArgs st) (exJ p0 p1 p2 p3 p4 p5 j m (a1 :: ar2)) (defScope st) .none .none doc pm an (.ref cda) ct cc) ⟨[a], fl.reverse.zip us.reverse⟩ = pure ((("self" : Str) :: fl).zip (a :: us)))
    (hcell : ∀ x ∈ (defScope st).names, x.2 ≠ .cell) (k1 : (defScope st).names.lookup ("self" : Str) = some .local) (k2 : ∀ f ∈ fl, (defScope st).names.lookup f = some .local) (k3 : (defScope st).names.lookup ("super" : Str) = some .globalImplicit) (k4 : (defScope st).names.lookup ("__class__" : Str) = some .free)
    (k5 : (defScope st).isCoroutine = false) (k6 : (defScope st).isGenerator = false) (k7 : (defScope st).kind = .function)
    (pl : Sem Bool) (he : ∀ env : Env, eval (.Call (.Attribute (.Call (.Name "super" p0) [] [] p1) "__init__" p2) [.Constant (.str m) j p3] [] p4) env = (do
      let ov ← attributeBase (.Call (.Name "super" p0) [] [] p1) "__init__" env (eval (.Call (.Name "super" p0) [] [] p1) env)
      standAt p2.atName
      let (f, first) ← holding [ov] (getMethod ov "__init__" pl)
      callWith p4 f first (backTo p4 (starEach [.Constant (.str m) j p3] env)) [])) :
    ExJs prog K mg B newId initId bmB C fI fl ∧ ExR K mg x C := by
  rw [hb] at l
  have eC : mroIn K C (.ref C) = some true := by
    have z := c.sub rfl (.ref C)
    rw [show (Value.ref C :: r).contains (.ref C) = true from by simp] at z
    exact z
  exact ⟨⟨q, ov, sa, no, c.hd, by rw [c.sub rfl, bB], sup, eC, opq, mg_none_of X G ns, top, nd, len, fdb, ⟨at_, fn, oc, od, qual, defArgs st, defScope st, doc, pm, an, cda, ct, osl, cc, ar, ccl, cl, cdd, cld, vs, ccs, csl, file, tf, p0, p1, p2, p3, p4, p5, j, m, a1, ar2, efl, l, lc, ld, hvs, hfile, lcc, hhd, har, bi, bk, hcell, k1, k2, k3, k4, k5, k6, k7, pl, he⟩⟩,
    ⟨c.g, kC, by rw [c.sub rfl, bE], c.ty⟩⟩
end
end GX
/-! part W00 -/
set_option Elab.async false
set_option linter.all false
set_option maxRecDepth 100000
set_option maxHeartbeats 4000000
namespace K00
open PySem L2 GX
theorem vals_rev : ∀ {zs : List V} {ws : List Value}, Vals zs ws → Vals zs.reverse ws.reverse := fun r => L2.Vals.reverse r
theorem txt_mk {K : PySem.W.Frag} {h : Heap} {mg : Str → Option Value} {PR : Addr} (X : K.In h) (G : h.Ns mainGlobals mg) (aP : PySem.W.nsIn K mainGlobals "PRIMES" = some (some (.ref PR)))
    (z_len : PySem.W.nsIn K mainGlobals "len" = some none) (z_int : PySem.W.nsIn K mainGlobals "int" = some none) (z_str : PySem.W.nsIn K mainGlobals "str" = some none) (z_bool : PySem.W.nsIn K mainGlobals "bool" = some none) (z_list : PySem.W.nsIn K mainGlobals "list" = some none) (z_tuple : PySem.W.nsIn K mainGlobals "tuple" = some none) (z_dict : PySem.W.nsIn K mainGlobals "dict" = some none) (z_isinstance : PySem.W.nsIn K mainGlobals "isinstance" = some none) (z_range : PySem.W.nsIn K mainGlobals "range" = some none) (z_abs : PySem.W.nsIn K mainGlobals "abs" = some none) (z_ValueError : PySem.W.nsIn K mainGlobals "ValueError" = some none) (z_LookupError : PySem.W.nsIn K mainGlobals "LookupError" = some none) (z_KeyError : PySem.W.nsIn K mainGlobals "KeyError" = some none) (z_IndexError : PySem.W.nsIn K mainGlobals "IndexError" = some none) (z_RuntimeError : PySem.W.nsIn K mainGlobals "RuntimeError" = some none) : Txt K mg PR :=
  { m_PRIMES := PySem.W.mg_of X G aP, m_len := PySem.W.mg_none_of X G z_len, m_int := PySem.W.mg_none_of X G z_int, m_str := PySem.W.mg_none_of X G z_str, m_bool := PySem.W.mg_none_of X G z_bool, m_list := PySem.W.mg_none_of X G z_list, m_tuple := PySem.W.mg_none_of X G z_tuple, m_dict := PySem.W.mg_none_of X G z_dict, m_isinstance := PySem.W.mg_none_of X G z_isinstance, m_range := PySem.W.mg_none_of X G z_range, m_abs := PySem.W.mg_none_of X G z_abs, m_ValueError := PySem.W.mg_none_of X G z_ValueError, m_LookupError := PySem.W.mg_none_of X G z_LookupError, m_KeyError := PySem.W.mg_none_of X G z_KeyError, m_IndexError := PySem.W.mg_none_of X G z_IndexError, m_RuntimeError := PySem.W.mg_none_of X G z_RuntimeError }
theorem primes_mk {K : PySem.W.Frag} {h : Heap} {PR : Addr} {od : Option Addr} {n : Nat} {sl : Array (Option Value)} {t0 t1 t2 t3 t4 t5 t6 t7 t8 t9 t10 : Tok} (X : K.In h) (aP : PySem.W.nsIn K mainGlobals "PRIMES" = some (some (.ref PR))) (l : K.lookup PR = some ⟨.type "tuple", od, .seq #[.int 2 t0, .int 3 t1, .int 5 t2, .int 7 t3, .int 11 t4, .int 13 t5, .int 17 t6, .int 19 t7, .int 23 t8, .int 29 t9, .int 31 t10] n, sl⟩) :
    ∃ (o : Obj) (its : Array Value) (n : Nat), K.lookup PR = some o ∧ o.cls = .type "tuple" ∧ o.data = .seq its n ∧ its.size ≤ sizeLine ∧ Vals (PL.map V.int) its.toList :=
  ⟨_, _, _, l, rfl, rfl, by show 11 ≤ sizeLine; decide, .cons ⟨_, rfl⟩ (.cons ⟨_, rfl⟩ (.cons ⟨_, rfl⟩ (.cons ⟨_, rfl⟩ (.cons ⟨_, rfl⟩ (.cons ⟨_, rfl⟩ (.cons ⟨_, rfl⟩ (.cons ⟨_, rfl⟩ (.cons ⟨_, rfl⟩ (.cons ⟨_, rfl⟩ (.cons ⟨_, rfl⟩ (.nil)))))))))))⟩
theorem bounds_mk {w : World} {K : PySem.W.Frag} {h : Heap} {mg : Str → Option Value} {D : Addr} {es : Array DictEntry} {n : Nat} {t0 t1 t2 t3 t4 t5 t6 t7 t8 t9 t10 t11 t12 t13 t14 t15 t16 : Tok} (X : K.In h) (G : h.Ns mainGlobals mg) (aD : PySem.W.nsIn K mainGlobals "BOUNDS" = some (some (.ref D))) (l : K.lookup D = some ⟨.type "dict", none, .dict es n, #[]⟩) (lit : PySem.W.KeysLit w.params es.toList) (low : (D == sysModules) = false) (size : es.size = 17)
    (z0 : PySem.W.nsIn K D "text" = some (some (.int 60000 t0))) (z1 : PySem.W.nsIn K D "terms" = some (some (.int 60 t1))) (z2 : PySem.W.nsIn K D "place" = some (some (.int 40 t2))) (z3 : PySem.W.nsIn K D "cells" = some (some (.int 24 t3))) (z4 : PySem.W.nsIn K D "window" = some (some (.int 25 t4))) (z5 : PySem.W.nsIn K D "measure" = some (some (.int 100 t5))) (z6 : PySem.W.nsIn K D "charges" = some (some (.int 40 t6))) (z7 : PySem.W.nsIn K D "rounds" = some (some (.int 200 t7))) (z8 : PySem.W.nsIn K D "kinds" = some (some (.int 1000 t8))) (z9 : PySem.W.nsIn K D "maps" = some (some (.int 30 t9))) (z10 : PySem.W.nsIn K D "sites" = some (some (.int 144 t10))) (z11 : PySem.W.nsIn K D "wrap" = some (some (.int 300 t11))) (z12 : PySem.W.nsIn K D "few" = some (some (.int 20 t12))) (z13 : PySem.W.nsIn K D "most" = some (some (.int 4 t13))) (z14 : PySem.W.nsIn K D "both" = some (some (.int 24 t14))) (z15 : PySem.W.nsIn K D "gates" = some (some (.int 60 t15))) (z16 : PySem.W.nsIn K D "deeds" = some (some (.int 200 t16))) : TxtB w K mg D es n := by
  refine ⟨PySem.W.mg_of X G aD, ⟨l, lit, low⟩, size, fun b hb => ?_⟩
  simp only [bnds, List.mem_cons, List.mem_nil_iff, or_false] at hb
  rcases hb with rfl | rfl | rfl | rfl | rfl | rfl | rfl | rfl | rfl | rfl | rfl | rfl | rfl | rfl | rfl | rfl | rfl
  · exact ⟨_, z0⟩
  · exact ⟨_, z1⟩
  · exact ⟨_, z2⟩
  · exact ⟨_, z3⟩
  · exact ⟨_, z4⟩
  · exact ⟨_, z5⟩
  · exact ⟨_, z6⟩
  · exact ⟨_, z7⟩
  · exact ⟨_, z8⟩
  · exact ⟨_, z9⟩
  · exact ⟨_, z10⟩
  · exact ⟨_, z11⟩
  · exact ⟨_, z12⟩
  · exact ⟨_, z13⟩
  · exact ⟨_, z14⟩
  · exact ⟨_, z15⟩
  · exact ⟨_, z16⟩
theorem no_one {K : PySem.W.Frag} {C : Addr} {f : Str} (a : PySem.W.findIn K (.ref C) f = some none) : ∀ x ∈ [f], PySem.W.findIn K (.ref C) x = some none := fun x hx => by rw [List.mem_singleton.mp hx]; exact a
theorem no_two {K : PySem.W.Frag} {C : Addr} {f g : Str} (a : PySem.W.findIn K (.ref C) f = some none) (b : PySem.W.findIn K (.ref C) g = some none) : ∀ x ∈ [f, g], PySem.W.findIn K (.ref C) x = some none := fun x hx => by
  rcases List.mem_cons.mp hx with e | e
  · rw [e]; exact a
  · rw [List.mem_singleton.mp e]; exact b
theorem no_mk {K : PySem.W.Frag} {mg : Str → Option Value} {x : Str} {C : Addr} {mro : List Value} (f : Str) (c : ClsM K mg x C mro) (a : PySem.W.findIn K (.ref C) f = some none) : PySem.W.findIn K (.ref C) f = some none := a
/-- a def that makes lambdas: its code object at c, its table at TP -/
structure DefC (K : PySem.W.Frag) (mg : Str → Option Value) (x : Str) (st : Stmt) (c TP : Addr) : Prop where
  ex : ∃ (f : Addr) (fd : FuncData) (e : Value) (dd : Option Addr) (vs : Array Value) (sl : Array (Option Value)), FunC K x x st f c fd ∧ mg x = some (.ref f) ∧ K.lookup c = some ⟨e, dd, .fields vs, sl⟩ ∧ vs[11]? = some (.ref TP) ∧ K.lookup TP = none
theorem defC_mk {K : PySem.W.Frag} {h : Heap} {mg : Str → Option Value} {x : Str} {st : Stmt} {f c TP : Addr} {oc e : Value} {od an dd : Option Addr} {osl sl : Array (Option Value)} {kV doc pm ct : Value} {vs : Array Value} (X : K.In h) (G : h.Ns mainGlobals mg) (a : PySem.W.nsIn K mainGlobals x = some (some (.ref f)))
    (l : K.lookup f = some ⟨oc, od, .func (PySem.W.fnOf x x (defArgs st) (defBody st) (defScope st) .none kV doc pm an (.ref c) ct), osl⟩) (cc : PySem.W.codeIn K (.ref c) x = true) (k : PySem.W.keepIn K (.ref f) = true) (lc : K.lookup c = some ⟨e, dd, .fields vs, sl⟩) (hv : vs[11]? = some (.ref TP)) (hn : K.lookup TP = none) : DefC K mg x st c TP :=
  ⟨f, _, e, dd, vs, sl, ⟨⟨oc, od, kV, doc, pm, an, ct, osl, rfl, l, cc⟩, k⟩, PySem.W.mg_of X G a, lc, hv, hn⟩
theorem DefC.tab {K : PySem.W.Frag} {mg : Str → Option Value} {x : Str} {st : Stmt} {c TP : Addr} {h : Heap} (D : DefC K mg x st c TP) (t : ∀ f, mg x = some (.ref f) → DefTab K f h) : h.get? TP = some { cls := .none, data := .fields #[] } ∧ PySem.W.CodeHd h c TP := by
  obtain ⟨f, fd, e, dd, vs, sl, F, hm, lc, hv, _⟩ := D.ex
  obtain ⟨oc, od, kV, doc, pm, an, ct, osl, rfl, lk, hcd⟩ := F.ex
  exact t f hm c TP _ _ e dd vs sl lk rfl rfl lc hv
section
variable {P : Program} {w : World} {K : PySem.W.Frag} {mg : Str → Option Value} {base : Heap} {PR CN fN : Addr}
theorem cal_like (d : DefAt K mg "_law_like" s_law_like) (T : Txt K mg PR) : ∀ k, CalG P w K mg base k "_law_like" 2 (spLike K k)
  | 0 => calG_mk (ps := ["told", "due"]) d (fun f fd F => ⟨fun o vs H Q E h => by
      obtain ⟨x, y, _, h4, _⟩ := h
      exact False.elim h4, fun A outer s H args us vs Q E o _ _ _ _ _ h => by
      obtain ⟨x, y, _, h4, _⟩ := h
      exact False.elim h4⟩) rfl (fun _ _ _ _ _ _ us hl => match us, hl with | [_, _], _ => rfl)
  | k + 1 => calG_mk d (fun f fd F => ok_like F T (cal_like d T k)) rfl (fun _ _ _ _ _ _ us hl => match us, hl with | [_, _], _ => rfl)

theorem cls_all {a0 a1 a2 a3 a4 a5 a6 a7 a8 a9 a10 a11 a12 a13 a14 a15 a16 a17 a18 a19 a20 a21 : Addr} (ca : Nat → Addr) (eca : ca = fun i => [a0, a1, a2, a3, a4, a5, a6, a7, a8, a9, a10, a11, a12, a13, a14, a15, a16, a17, a18, a19, a20, a21].getD i 0)
    (c0 : ClsM K mg "BadNumber" a0 (.ref a0 :: [.ref a20, .type "ValueError", .type "Exception", .type "BaseException", .type "object"]))
    (c1 : ClsM K mg "BadName" a1 (.ref a1 :: [.ref a20, .type "ValueError", .type "Exception", .type "BaseException", .type "object"]))
    (c2 : ClsM K mg "BadSum" a2 (.ref a2 :: [.ref a20, .type "ValueError", .type "Exception", .type "BaseException", .type "object"]))
    (c3 : ClsM K mg "BadTable" a3 (.ref a3 :: [.ref a20, .type "ValueError", .type "Exception", .type "BaseException", .type "object"]))
    (c4 : ClsM K mg "BadDeed" a4 (.ref a4 :: [.ref a20, .type "ValueError", .type "Exception", .type "BaseException", .type "object"]))
    (c5 : ClsM K mg "BadBook" a5 (.ref a5 :: [.ref a20, .type "ValueError", .type "Exception", .type "BaseException", .type "object"]))
    (c6 : ClsM K mg "BadPattern" a6 (.ref a6 :: [.ref a20, .type "ValueError", .type "Exception", .type "BaseException", .type "object"]))
    (c7 : ClsM K mg "BadTorus" a7 (.ref a7 :: [.ref a20, .type "ValueError", .type "Exception", .type "BaseException", .type "object"]))
    (c8 : ClsM K mg "BadGate" a8 (.ref a8 :: [.ref a20, .type "ValueError", .type "Exception", .type "BaseException", .type "object"]))
    (c9 : ClsM K mg "BadRule" a9 (.ref a9 :: [.ref a20, .type "ValueError", .type "Exception", .type "BaseException", .type "object"]))
    (c10 : ClsM K mg "BadCharge" a10 (.ref a10 :: [.ref a20, .type "ValueError", .type "Exception", .type "BaseException", .type "object"]))
    (c11 : ClsM K mg "BadScript" a11 (.ref a11 :: [.ref a20, .type "ValueError", .type "Exception", .type "BaseException", .type "object"]))
    (c12 : ClsM K mg "Clashing" a12 (.ref a12 :: [.ref a21, .type "ValueError", .type "Exception", .type "BaseException", .type "object"]))
    (c13 : ClsM K mg "Unlike" a13 (.ref a13 :: [.ref a21, .type "ValueError", .type "Exception", .type "BaseException", .type "object"]))
    (c14 : ClsM K mg "NotTight" a14 (.ref a14 :: [.ref a21, .type "ValueError", .type "Exception", .type "BaseException", .type "object"]))
    (c15 : ClsM K mg "NotRule" a15 (.ref a15 :: [.ref a21, .type "ValueError", .type "Exception", .type "BaseException", .type "object"]))
    (c16 : ClsM K mg "NotFitting" a16 (.ref a16 :: [.ref a21, .type "ValueError", .type "Exception", .type "BaseException", .type "object"]))
    (c17 : ClsM K mg "TooMany" a17 (.ref a17 :: [.ref a21, .type "ValueError", .type "Exception", .type "BaseException", .type "object"]))
    (c18 : ClsM K mg "NoSuch" a18 (.ref a18 :: [.type "LookupError", .type "Exception", .type "BaseException", .type "object"]))
    (c19 : ClsM K mg "Ended" a19 (.ref a19 :: [.type "RuntimeError", .type "Exception", .type "BaseException", .type "object"]))
    (c20 : ClsM K mg "Malformed" a20 [.ref a20, .type "ValueError", .type "Exception", .type "BaseException", .type "object"])
    (c21 : ClsM K mg "Refused" a21 [.ref a21, .type "ValueError", .type "Exception", .type "BaseException", .type "object"])
    (x0 : ExK K a0) (n0_0 : PySem.W.findIn K (.ref a0) "value" = some none)
    (x1 : ExK K a1) (n1_0 : PySem.W.findIn K (.ref a1) "name" = some none)
    (x2 : ExK K a2) (n2_0 : PySem.W.findIn K (.ref a2) "term" = some none)
    (x3 : ExK K a3) (n3_0 : PySem.W.findIn K (.ref a3) "row" = some none)
    (x4 : ExK K a4) (n4_0 : PySem.W.findIn K (.ref a4) "at" = some none)
    (x5 : ExK K a5) (n5_0 : PySem.W.findIn K (.ref a5) "line" = some none)
    (x6 : ExK K a6) (n6_0 : PySem.W.findIn K (.ref a6) "at" = some none)
    (x7 : ExK K a7) (n7_0 : PySem.W.findIn K (.ref a7) "at" = some none)
    (x8 : ExK K a8) (n8_0 : PySem.W.findIn K (.ref a8) "line" = some none)
    (x9 : ExK K a9) (n9_0 : PySem.W.findIn K (.ref a9) "line" = some none)
    (x10 : ExK K a10) (n10_0 : PySem.W.findIn K (.ref a10) "length" = some none)
    (x11 : ExK K a11) (n11_0 : PySem.W.findIn K (.ref a11) "line" = some none)
    (x12 : ExK K a12) (n12_0 : PySem.W.findIn K (.ref a12) "first" = some none) (n12_1 : PySem.W.findIn K (.ref a12) "second" = some none)
    (x13 : ExK K a13) (n13_0 : PySem.W.findIn K (.ref a13) "what" = some none)
    (x14 : ExK K a14) (n14_0 : PySem.W.findIn K (.ref a14) "kind" = some none)
    (x15 : ExK K a15) (n15_0 : PySem.W.findIn K (.ref a15) "row" = some none)
    (x16 : ExK K a16) (n16_0 : PySem.W.findIn K (.ref a16) "what" = some none)
    (x17 : ExK K a17) (n17_0 : PySem.W.findIn K (.ref a17) "what" = some none) (n17_1 : PySem.W.findIn K (.ref a17) "size" = some none)
    (x18 : ExK K a18) (n18_0 : PySem.W.findIn K (.ref a18) "name" = some none)
    (x19 : ExK K a19) (n19_0 : PySem.W.findIn K (.ref a19) "what" = some none)
    (mk : ∀ r ∈ rows, ∀ m ∈ marks ca, ([Value.ref a0 :: [.ref a20, .type "ValueError", .type "Exception", .type "BaseException", .type "object"], Value.ref a1 :: [.ref a20, .type "ValueError", .type "Exception", .type "BaseException", .type "object"], Value.ref a2 :: [.ref a20, .type "ValueError", .type "Exception", .type "BaseException", .type "object"], Value.ref a3 :: [.ref a20, .type "ValueError", .type "Exception", .type "BaseException", .type "object"], Value.ref a4 :: [.ref a20, .type "ValueError", .type "Exception", .type "BaseException", .type "object"], Value.ref a5 :: [.ref a20, .type "ValueError", .type "Exception", .type "BaseException", .type "object"], Value.ref a6 :: [.ref a20, .type "ValueError", .type "Exception", .type "BaseException", .type "object"], Value.ref a7 :: [.ref a20, .type "ValueError", .type "Exception", .type "BaseException", .type "object"], Value.ref a8 :: [.ref a20, .type "ValueError", .type "Exception", .type "BaseException", .type "object"], Value.ref a9 :: [.ref a20, .type "ValueError", .type "Exception", .type "BaseException", .type "object"], Value.ref a10 :: [.ref a20, .type "ValueError", .type "Exception", .type "BaseException", .type "object"], Value.ref a11 :: [.ref a20, .type "ValueError", .type "Exception", .type "BaseException", .type "object"], Value.ref a12 :: [.ref a21, .type "ValueError", .type "Exception", .type "BaseException", .type "object"], Value.ref a13 :: [.ref a21, .type "ValueError", .type "Exception", .type "BaseException", .type "object"], Value.ref a14 :: [.ref a21, .type "ValueError", .type "Exception", .type "BaseException", .type "object"], Value.ref a15 :: [.ref a21, .type "ValueError", .type "Exception", .type "BaseException", .type "object"], Value.ref a16 :: [.ref a21, .type "ValueError", .type "Exception", .type "BaseException", .type "object"], Value.ref a17 :: [.ref a21, .type "ValueError", .type "Exception", .type "BaseException", .type "object"], Value.ref a18 :: [.type "LookupError", .type "Exception", .type "BaseException", .type "object"], Value.ref a19 :: [.type "RuntimeError", .type "Exception", .type "BaseException", .type "object"]].getD r.at_ []).contains m.2.2 = r.is m.1) (ne : (Value.ref a8 :: [.ref a20, .type "ValueError", .type "Exception", .type "BaseException", .type "object"]).contains (.ref a21) = false) : TxtK K ca ∧ TxtC mg ca ∧ TxtM K mg ca := by
  have kt : ∀ T ∈ ["ValueError", "LookupError", "KeyError", "IndexError", "RuntimeError"], PySem.W.kitMeta T = true := by decide +kernel
  have kV := kt "ValueError" (by decide)
  have kL := kt "LookupError" (by decide)
  have kK := kt "KeyError" (by decide)
  have kI := kt "IndexError" (by decide)
  have kR := kt "RuntimeError" (by decide)
  have go : ∀ {x : Str} {C : Addr} {r : List Value} (c : ClsM K mg x C (.ref C :: r)), ∀ m ∈ marks ca, PySem.W.kitOne K (.ref C) m.2.2 = some ((Value.ref C :: r).contains m.2.2) := fun {x C r} c m hm => by
    simp only [marks, List.mem_cons, List.mem_nil_iff, or_false] at hm
    subst eca
    rcases hm with rfl | rfl | rfl | rfl | rfl | rfl | rfl | rfl | rfl | rfl | rfl | rfl | rfl | rfl | rfl | rfl | rfl | rfl | rfl | rfl | rfl | rfl | rfl | rfl | rfl | rfl | rfl
    · exact c.kit c0
    · exact c.kit c1
    · exact c.kit c2
    · exact c.kit c3
    · exact c.kit c4
    · exact c.kit c5
    · exact c.kit c6
    · exact c.kit c7
    · exact c.kit c8
    · exact c.kit c9
    · exact c.kit c10
    · exact c.kit c11
    · exact c.kit c12
    · exact c.kit c13
    · exact c.kit c14
    · exact c.kit c15
    · exact c.kit c16
    · exact c.kit c17
    · exact c.kit c18
    · exact c.kit c19
    · exact c.kit c20
    · exact c.kit c21
    · exact c.kitT kV
    · exact c.kitT kL
    · exact c.kitT kK
    · exact c.kitT kI
    · exact c.kitT kR
  refine ⟨⟨fun r hr => ?_⟩, ⟨by subst eca; exact c0.g, by subst eca; exact c1.g, by subst eca; exact c2.g, by subst eca; exact c3.g, by subst eca; exact c4.g, by subst eca; exact c5.g, by subst eca; exact c6.g, by subst eca; exact c7.g, by subst eca; exact c8.g, by subst eca; exact c9.g, by subst eca; exact c10.g, by subst eca; exact c11.g, by subst eca; exact c12.g, by subst eca; exact c13.g, by subst eca; exact c14.g, by subst eca; exact c15.g, by subst eca; exact c16.g, by subst eca; exact c17.g, by subst eca; exact c18.g, by subst eca; exact c19.g, by subst eca; exact c20.g, by subst eca; exact c21.g⟩, ⟨by subst eca; exact c20.g, by subst eca; exact c21.g, by subst eca; exact c18.g, by subst eca; exact c19.g, ?_, ?_, ?_, ?_⟩⟩
  · have mk1 := mk r hr
    simp only [rows, List.mem_cons, List.mem_nil_iff, or_false] at hr
    rcases hr with rfl | rfl | rfl | rfl | rfl | rfl | rfl | rfl | rfl | rfl | rfl | rfl | rfl | rfl | rfl | rfl | rfl | rfl | rfl | rfl
    · have ea : ca 0 = a0 := by subst eca; rfl
      refine ⟨by show ExK K (ca 0); rw [ea]; exact x0, ?_, fun m hm => ?_⟩
      · show ∀ f ∈ (["value"] : List Str), PySem.W.findIn K (.ref (ca 0)) f = some none
        rw [ea]
        exact fun f hf => by rw [List.mem_singleton.mp hf]; exact n0_0
      · show PySem.W.kitOne K (.ref (ca 0)) m.2.2 = _
        rw [ea]
        exact (go c0 m hm).trans (congrArg some (mk1 m hm))
    · have ea : ca 1 = a1 := by subst eca; rfl
      refine ⟨by show ExK K (ca 1); rw [ea]; exact x1, ?_, fun m hm => ?_⟩
      · show ∀ f ∈ (["name"] : List Str), PySem.W.findIn K (.ref (ca 1)) f = some none
        rw [ea]
        exact fun f hf => by rw [List.mem_singleton.mp hf]; exact n1_0
      · show PySem.W.kitOne K (.ref (ca 1)) m.2.2 = _
        rw [ea]
        exact (go c1 m hm).trans (congrArg some (mk1 m hm))
    · have ea : ca 2 = a2 := by subst eca; rfl
      refine ⟨by show ExK K (ca 2); rw [ea]; exact x2, ?_, fun m hm => ?_⟩
      · show ∀ f ∈ (["term"] : List Str), PySem.W.findIn K (.ref (ca 2)) f = some none
        rw [ea]
        exact fun f hf => by rw [List.mem_singleton.mp hf]; exact n2_0
      · show PySem.W.kitOne K (.ref (ca 2)) m.2.2 = _
        rw [ea]
        exact (go c2 m hm).trans (congrArg some (mk1 m hm))
    · have ea : ca 3 = a3 := by subst eca; rfl
      refine ⟨by show ExK K (ca 3); rw [ea]; exact x3, ?_, fun m hm => ?_⟩
      · show ∀ f ∈ (["row"] : List Str), PySem.W.findIn K (.ref (ca 3)) f = some none
        rw [ea]
        exact fun f hf => by rw [List.mem_singleton.mp hf]; exact n3_0
      · show PySem.W.kitOne K (.ref (ca 3)) m.2.2 = _
        rw [ea]
        exact (go c3 m hm).trans (congrArg some (mk1 m hm))
    · have ea : ca 4 = a4 := by subst eca; rfl
      refine ⟨by show ExK K (ca 4); rw [ea]; exact x4, ?_, fun m hm => ?_⟩
      · show ∀ f ∈ (["at"] : List Str), PySem.W.findIn K (.ref (ca 4)) f = some none
        rw [ea]
        exact fun f hf => by rw [List.mem_singleton.mp hf]; exact n4_0
      · show PySem.W.kitOne K (.ref (ca 4)) m.2.2 = _
        rw [ea]
        exact (go c4 m hm).trans (congrArg some (mk1 m hm))
    · have ea : ca 5 = a5 := by subst eca; rfl
      refine ⟨by show ExK K (ca 5); rw [ea]; exact x5, ?_, fun m hm => ?_⟩
      · show ∀ f ∈ (["line"] : List Str), PySem.W.findIn K (.ref (ca 5)) f = some none
        rw [ea]
        exact fun f hf => by rw [List.mem_singleton.mp hf]; exact n5_0
      · show PySem.W.kitOne K (.ref (ca 5)) m.2.2 = _
        rw [ea]
        exact (go c5 m hm).trans (congrArg some (mk1 m hm))
    · have ea : ca 6 = a6 := by subst eca; rfl
      refine ⟨by show ExK K (ca 6); rw [ea]; exact x6, ?_, fun m hm => ?_⟩
      · show ∀ f ∈ (["at"] : List Str), PySem.W.findIn K (.ref (ca 6)) f = some none
        rw [ea]
        exact fun f hf => by rw [List.mem_singleton.mp hf]; exact n6_0
      · show PySem.W.kitOne K (.ref (ca 6)) m.2.2 = _
        rw [ea]
        exact (go c6 m hm).trans (congrArg some (mk1 m hm))
    · have ea : ca 7 = a7 := by subst eca; rfl
      refine ⟨by show ExK K (ca 7); rw [ea]; exact x7, ?_, fun m hm => ?_⟩
      · show ∀ f ∈ (["at"] : List Str), PySem.W.findIn K (.ref (ca 7)) f = some none
        rw [ea]
        exact fun f hf => by rw [List.mem_singleton.mp hf]; exact n7_0
      · show PySem.W.kitOne K (.ref (ca 7)) m.2.2 = _
        rw [ea]
        exact (go c7 m hm).trans (congrArg some (mk1 m hm))
    · have ea : ca 8 = a8 := by subst eca; rfl
      refine ⟨by show ExK K (ca 8); rw [ea]; exact x8, ?_, fun m hm => ?_⟩
      · show ∀ f ∈ (["line"] : List Str), PySem.W.findIn K (.ref (ca 8)) f = some none
        rw [ea]
        exact fun f hf => by rw [List.mem_singleton.mp hf]; exact n8_0
      · show PySem.W.kitOne K (.ref (ca 8)) m.2.2 = _
        rw [ea]
        exact (go c8 m hm).trans (congrArg some (mk1 m hm))
    · have ea : ca 9 = a9 := by subst eca; rfl
      refine ⟨by show ExK K (ca 9); rw [ea]; exact x9, ?_, fun m hm => ?_⟩
      · show ∀ f ∈ (["line"] : List Str), PySem.W.findIn K (.ref (ca 9)) f = some none
        rw [ea]
        exact fun f hf => by rw [List.mem_singleton.mp hf]; exact n9_0
      · show PySem.W.kitOne K (.ref (ca 9)) m.2.2 = _
        rw [ea]
        exact (go c9 m hm).trans (congrArg some (mk1 m hm))
    · have ea : ca 10 = a10 := by subst eca; rfl
      refine ⟨by show ExK K (ca 10); rw [ea]; exact x10, ?_, fun m hm => ?_⟩
      · show ∀ f ∈ (["length"] : List Str), PySem.W.findIn K (.ref (ca 10)) f = some none
        rw [ea]
        exact fun f hf => by rw [List.mem_singleton.mp hf]; exact n10_0
      · show PySem.W.kitOne K (.ref (ca 10)) m.2.2 = _
        rw [ea]
        exact (go c10 m hm).trans (congrArg some (mk1 m hm))
    · have ea : ca 11 = a11 := by subst eca; rfl
      refine ⟨by show ExK K (ca 11); rw [ea]; exact x11, ?_, fun m hm => ?_⟩
      · show ∀ f ∈ (["line"] : List Str), PySem.W.findIn K (.ref (ca 11)) f = some none
        rw [ea]
        exact fun f hf => by rw [List.mem_singleton.mp hf]; exact n11_0
      · show PySem.W.kitOne K (.ref (ca 11)) m.2.2 = _
        rw [ea]
        exact (go c11 m hm).trans (congrArg some (mk1 m hm))
    · have ea : ca 12 = a12 := by subst eca; rfl
      refine ⟨by show ExK K (ca 12); rw [ea]; exact x12, ?_, fun m hm => ?_⟩
      · show ∀ f ∈ (["first", "second"] : List Str), PySem.W.findIn K (.ref (ca 12)) f = some none
        rw [ea]
        exact fun f hf => by
            rcases List.mem_cons.mp hf with e | e
            · rw [e]; exact n12_0
            · rw [List.mem_singleton.mp e]; exact n12_1
      · show PySem.W.kitOne K (.ref (ca 12)) m.2.2 = _
        rw [ea]
        exact (go c12 m hm).trans (congrArg some (mk1 m hm))
    · have ea : ca 13 = a13 := by subst eca; rfl
      refine ⟨by show ExK K (ca 13); rw [ea]; exact x13, ?_, fun m hm => ?_⟩
      · show ∀ f ∈ (["what"] : List Str), PySem.W.findIn K (.ref (ca 13)) f = some none
        rw [ea]
        exact fun f hf => by rw [List.mem_singleton.mp hf]; exact n13_0
      · show PySem.W.kitOne K (.ref (ca 13)) m.2.2 = _
        rw [ea]
        exact (go c13 m hm).trans (congrArg some (mk1 m hm))
    · have ea : ca 14 = a14 := by subst eca; rfl
      refine ⟨by show ExK K (ca 14); rw [ea]; exact x14, ?_, fun m hm => ?_⟩
      · show ∀ f ∈ (["kind"] : List Str), PySem.W.findIn K (.ref (ca 14)) f = some none
        rw [ea]
        exact fun f hf => by rw [List.mem_singleton.mp hf]; exact n14_0
      · show PySem.W.kitOne K (.ref (ca 14)) m.2.2 = _
        rw [ea]
        exact (go c14 m hm).trans (congrArg some (mk1 m hm))
    · have ea : ca 15 = a15 := by subst eca; rfl
      refine ⟨by show ExK K (ca 15); rw [ea]; exact x15, ?_, fun m hm => ?_⟩
      · show ∀ f ∈ (["row"] : List Str), PySem.W.findIn K (.ref (ca 15)) f = some none
        rw [ea]
        exact fun f hf => by rw [List.mem_singleton.mp hf]; exact n15_0
      · show PySem.W.kitOne K (.ref (ca 15)) m.2.2 = _
        rw [ea]
        exact (go c15 m hm).trans (congrArg some (mk1 m hm))
    · have ea : ca 16 = a16 := by subst eca; rfl
      refine ⟨by show ExK K (ca 16); rw [ea]; exact x16, ?_, fun m hm => ?_⟩
      · show ∀ f ∈ (["what"] : List Str), PySem.W.findIn K (.ref (ca 16)) f = some none
        rw [ea]
        exact fun f hf => by rw [List.mem_singleton.mp hf]; exact n16_0
      · show PySem.W.kitOne K (.ref (ca 16)) m.2.2 = _
        rw [ea]
        exact (go c16 m hm).trans (congrArg some (mk1 m hm))
    · have ea : ca 17 = a17 := by subst eca; rfl
      refine ⟨by show ExK K (ca 17); rw [ea]; exact x17, ?_, fun m hm => ?_⟩
      · show ∀ f ∈ (["what", "size"] : List Str), PySem.W.findIn K (.ref (ca 17)) f = some none
        rw [ea]
        exact fun f hf => by
            rcases List.mem_cons.mp hf with e | e
            · rw [e]; exact n17_0
            · rw [List.mem_singleton.mp e]; exact n17_1
      · show PySem.W.kitOne K (.ref (ca 17)) m.2.2 = _
        rw [ea]
        exact (go c17 m hm).trans (congrArg some (mk1 m hm))
    · have ea : ca 18 = a18 := by subst eca; rfl
      refine ⟨by show ExK K (ca 18); rw [ea]; exact x18, ?_, fun m hm => ?_⟩
      · show ∀ f ∈ (["name"] : List Str), PySem.W.findIn K (.ref (ca 18)) f = some none
        rw [ea]
        exact fun f hf => by rw [List.mem_singleton.mp hf]; exact n18_0
      · show PySem.W.kitOne K (.ref (ca 18)) m.2.2 = _
        rw [ea]
        exact (go c18 m hm).trans (congrArg some (mk1 m hm))
    · have ea : ca 19 = a19 := by subst eca; rfl
      refine ⟨by show ExK K (ca 19); rw [ea]; exact x19, ?_, fun m hm => ?_⟩
      · show ∀ f ∈ (["what"] : List Str), PySem.W.findIn K (.ref (ca 19)) f = some none
        rw [ea]
        exact fun f hf => by rw [List.mem_singleton.mp hf]; exact n19_0
      · show PySem.W.kitOne K (.ref (ca 19)) m.2.2 = _
        rw [ea]
        exact (go c19 m hm).trans (congrArg some (mk1 m hm))
  · have ea : ca 17 = a17 := by subst eca; rfl
    have eb : ca 21 = a21 := by subst eca; rfl
    rw [ea, eb, c17.exm c21 (by simp)]
    simp
  · have ea : ca 8 = a8 := by subst eca; rfl
    have eb : ca 21 = a21 := by subst eca; rfl
    rw [ea, eb, c8.exm c21 (by simp)]
    rw [ne]
  · have ea : ca 8 = a8 := by subst eca; rfl
    have eb : ca 20 = a20 := by subst eca; rfl
    rw [ea, eb, c8.exm c20 (by simp)]
    simp
  · have ea : ca 0 = a0 := by subst eca; rfl
    have eb : ca 20 = a20 := by subst eca; rfl
    rw [ea, eb, c0.exm c20 (by simp)]
    simp
theorem all_mk {l : PySem.W.OpenLaw} {h : Heap} {ca fi : Nat → Addr} {a0 a1 a2 a3 a4 a5 a6 a7 a8 a9 a10 a11 a12 a13 a14 a15 a16 a17 a18 a19 f0 f1 f2 f3 f4 f5 f6 f7 f8 f9 f10 f11 f12 f13 f14 f15 f16 f17 f18 f19 DB c TP fa : Addr} {es : Array DictEntry} {n : Nat} (eca : ∀ i < 20, ca i = [a0, a1, a2, a3, a4, a5, a6, a7, a8, a9, a10, a11, a12, a13, a14, a15, a16, a17, a18, a19].getD i 0) (efi : ∀ i < 20, fi i = [f0, f1, f2, f3, f4, f5, f6, f7, f8, f9, f10, f11, f12, f13, f14, f15, f16, f17, f18, f19].getD i 0) (hfa : mg "law" = some (.ref fa)) (T : Txt K mg PR)
    (kP : ∃ (o : Obj) (its : Array Value) (n : Nat), K.lookup PR = some o ∧ o.cls = .type "tuple" ∧ o.data = .seq its n ∧ its.size ≤ sizeLine ∧ Vals (PL.map V.int) its.toList) (tB : TxtB w K mg DB es n) (ka : TxtK K ca ∧ TxtC mg ca ∧ TxtM K mg ca)
    (e0 : ExJs l.prog K mg "ValueError" "ValueError.__new__" "ValueError.__init__" [.type "ValueError", .type "Exception", .type "BaseException", .type "object"] a0 f0 ["value"] ∧ ExR K mg "BadNumber" a0)
    (e1 : ExJs l.prog K mg "ValueError" "ValueError.__new__" "ValueError.__init__" [.type "ValueError", .type "Exception", .type "BaseException", .type "object"] a1 f1 ["name"] ∧ ExR K mg "BadName" a1)
    (e2 : ExJs l.prog K mg "ValueError" "ValueError.__new__" "ValueError.__init__" [.type "ValueError", .type "Exception", .type "BaseException", .type "object"] a2 f2 ["term"] ∧ ExR K mg "BadSum" a2)
    (e3 : ExJs l.prog K mg "ValueError" "ValueError.__new__" "ValueError.__init__" [.type "ValueError", .type "Exception", .type "BaseException", .type "object"] a3 f3 ["row"] ∧ ExR K mg "BadTable" a3)
    (e4 : ExJs l.prog K mg "ValueError" "ValueError.__new__" "ValueError.__init__" [.type "ValueError", .type "Exception", .type "BaseException", .type "object"] a4 f4 ["at"] ∧ ExR K mg "BadDeed" a4)
    (e5 : ExJs l.prog K mg "ValueError" "ValueError.__new__" "ValueError.__init__" [.type "ValueError", .type "Exception", .type "BaseException", .type "object"] a5 f5 ["line"] ∧ ExR K mg "BadBook" a5)
    (e6 : ExJs l.prog K mg "ValueError" "ValueError.__new__" "ValueError.__init__" [.type "ValueError", .type "Exception", .type "BaseException", .type "object"] a6 f6 ["at"] ∧ ExR K mg "BadPattern" a6)
    (e7 : ExJs l.prog K mg "ValueError" "ValueError.__new__" "ValueError.__init__" [.type "ValueError", .type "Exception", .type "BaseException", .type "object"] a7 f7 ["at"] ∧ ExR K mg "BadTorus" a7)
    (e8 : ExJs l.prog K mg "ValueError" "ValueError.__new__" "ValueError.__init__" [.type "ValueError", .type "Exception", .type "BaseException", .type "object"] a8 f8 ["line"] ∧ ExR K mg "BadGate" a8)
    (e9 : ExJs l.prog K mg "ValueError" "ValueError.__new__" "ValueError.__init__" [.type "ValueError", .type "Exception", .type "BaseException", .type "object"] a9 f9 ["line"] ∧ ExR K mg "BadRule" a9)
    (e10 : ExJs l.prog K mg "ValueError" "ValueError.__new__" "ValueError.__init__" [.type "ValueError", .type "Exception", .type "BaseException", .type "object"] a10 f10 ["length"] ∧ ExR K mg "BadCharge" a10)
    (e11 : ExJs l.prog K mg "ValueError" "ValueError.__new__" "ValueError.__init__" [.type "ValueError", .type "Exception", .type "BaseException", .type "object"] a11 f11 ["line"] ∧ ExR K mg "BadScript" a11)
    (e12 : ExJs l.prog K mg "ValueError" "ValueError.__new__" "ValueError.__init__" [.type "ValueError", .type "Exception", .type "BaseException", .type "object"] a12 f12 ["first", "second"] ∧ ExR K mg "Clashing" a12)
    (e13 : ExJs l.prog K mg "ValueError" "ValueError.__new__" "ValueError.__init__" [.type "ValueError", .type "Exception", .type "BaseException", .type "object"] a13 f13 ["what"] ∧ ExR K mg "Unlike" a13)
    (e14 : ExJs l.prog K mg "ValueError" "ValueError.__new__" "ValueError.__init__" [.type "ValueError", .type "Exception", .type "BaseException", .type "object"] a14 f14 ["kind"] ∧ ExR K mg "NotTight" a14)
    (e15 : ExJs l.prog K mg "ValueError" "ValueError.__new__" "ValueError.__init__" [.type "ValueError", .type "Exception", .type "BaseException", .type "object"] a15 f15 ["row"] ∧ ExR K mg "NotRule" a15)
    (e16 : ExJs l.prog K mg "ValueError" "ValueError.__new__" "ValueError.__init__" [.type "ValueError", .type "Exception", .type "BaseException", .type "object"] a16 f16 ["what"] ∧ ExR K mg "NotFitting" a16)
    (e17 : ExJs l.prog K mg "ValueError" "ValueError.__new__" "ValueError.__init__" [.type "ValueError", .type "Exception", .type "BaseException", .type "object"] a17 f17 ["what", "size"] ∧ ExR K mg "TooMany" a17)
    (e18 : ExJs l.prog K mg "LookupError" "LookupError.__new__" "LookupError.__init__" [.type "LookupError", .type "Exception", .type "BaseException", .type "object"] a18 f18 ["name"] ∧ ExR K mg "NoSuch" a18)
    (e19 : ExJs l.prog K mg "RuntimeError" "RuntimeError.__new__" "RuntimeError.__init__" [.type "RuntimeError", .type "Exception", .type "BaseException", .type "object"] a19 f19 ["what"] ∧ ExR K mg "Ended" a19)
    (d_check_prime : DefAt K mg "check_prime" s_check_prime)
    (d_reduced : DefAt K mg "reduced" s_reduced)
    (d_inverse_number : DefAt K mg "inverse_number" s_inverse_number)
    (d_law_jar : DefAt K mg "_law_jar" s_law_jar)
    (d_law_draw : DefAt K mg "_law_draw" s_law_draw)
    (d_law_pick : DefAt K mg "_law_pick" s_law_pick)
    (d_law_big : DefAt K mg "_law_big" s_law_big)
    (d_law_like : DefAt K mg "_law_like" s_law_like)
    (d_law_classes : DefAt K mg "_law_classes" s_law_classes)
    (d_law_parts_of : DefAt K mg "_law_parts_of" s_law_parts_of)
    (d_law_tried : DefAt K mg "_law_tried" s_law_tried)
    (d_law_refused : DefAt K mg "_law_refused" s_law_refused)
    (d_law_flip : DefAt K mg "_law_flip" s_law_flip)
    (d_law_no_prime : DefAt K mg "_law_no_prime" s_law_no_prime)
    (d_law_bounds_told : DefAt K mg "_law_bounds_told" s_law_bounds_told)
    (d_law_drawn_thing : DefAt K mg "_law_drawn_thing" s_law_drawn_thing)
    (d_law_made_well : DefAt K mg "_law_made_well" s_law_made_well)
    (d_law_one_field : DefAt K mg "_law_one_field" s_law_one_field)
    (d_law_two_fields : DefAt K mg "_law_two_fields" s_law_two_fields)
    (d_law_caught_by_bases : DefAt K mg "_law_caught_by_bases" s_law_caught_by_bases)
    (d_law_raised : DefAt K mg "_law_raised" s_law_raised)
    (d_law : DefAt K mg "law" s_law) (dN : DefC K mg "_law_numbers_told" s_law_numbers_told c TP) (hT : h.get? TP = some { cls := .none, data := .fields #[] } ∧ PySem.W.CodeHd h c TP) : LamX.LawAtS l w K (L2N.CX l.prog w) 8 63 "script" mg fa h := by
  obtain ⟨ff, fdf, Ff, hff⟩ := d_law.ex
  have e := hfa.symm.trans hff
  cases e
  obtain ⟨fN, fdN, eN, ddN, vsN, slN, FN, hmN, lcN, hvN, hnN⟩ := dN.ex
  refine ⟨fdf, [(c, TP)], spLaw K TP, fun p hp => ?_, fun p hp => ?_, fun p hp => ?_, fun s v => ?_, fun H a ns _ _ hH hS => ⟨a, ns, rfl, hS, fun p hp => ?_, fun _ => rfl⟩, fun base KB NB hTB => ?_⟩
  · rw [List.mem_singleton.mp hp]; exact hT.1
  · rw [List.mem_singleton.mp hp]; exact hnN
  · rw [List.mem_singleton.mp hp]; exact hT.2
  · obtain ⟨oc, od, kV, doc, pm, an, cdv, ct, osl, rfl, lk, hcd⟩ := Ff.ex
    exact .of_eq rfl
  · rw [List.mem_singleton.mp hp]; exact LamX.TabS.nil (hH _ (List.mem_singleton.mpr rfl))
  have TB := hTB (c, TP) (List.mem_singleton.mpr rfl)
  obtain ⟨TK, TC, TM⟩ := ka
  have ea0 : ca 0 = a0 := eca 0 (by decide)
  have ef0 : fi 0 = f0 := efi 0 (by decide)
  have ea1 : ca 1 = a1 := eca 1 (by decide)
  have ef1 : fi 1 = f1 := efi 1 (by decide)
  have ea2 : ca 2 = a2 := eca 2 (by decide)
  have ef2 : fi 2 = f2 := efi 2 (by decide)
  have ea3 : ca 3 = a3 := eca 3 (by decide)
  have ef3 : fi 3 = f3 := efi 3 (by decide)
  have ea4 : ca 4 = a4 := eca 4 (by decide)
  have ef4 : fi 4 = f4 := efi 4 (by decide)
  have ea5 : ca 5 = a5 := eca 5 (by decide)
  have ef5 : fi 5 = f5 := efi 5 (by decide)
  have ea6 : ca 6 = a6 := eca 6 (by decide)
  have ef6 : fi 6 = f6 := efi 6 (by decide)
  have ea7 : ca 7 = a7 := eca 7 (by decide)
  have ef7 : fi 7 = f7 := efi 7 (by decide)
  have ea8 : ca 8 = a8 := eca 8 (by decide)
  have ef8 : fi 8 = f8 := efi 8 (by decide)
  have ea9 : ca 9 = a9 := eca 9 (by decide)
  have ef9 : fi 9 = f9 := efi 9 (by decide)
  have ea10 : ca 10 = a10 := eca 10 (by decide)
  have ef10 : fi 10 = f10 := efi 10 (by decide)
  have ea11 : ca 11 = a11 := eca 11 (by decide)
  have ef11 : fi 11 = f11 := efi 11 (by decide)
  have ea12 : ca 12 = a12 := eca 12 (by decide)
  have ef12 : fi 12 = f12 := efi 12 (by decide)
  have ea13 : ca 13 = a13 := eca 13 (by decide)
  have ef13 : fi 13 = f13 := efi 13 (by decide)
  have ea14 : ca 14 = a14 := eca 14 (by decide)
  have ef14 : fi 14 = f14 := efi 14 (by decide)
  have ea15 : ca 15 = a15 := eca 15 (by decide)
  have ef15 : fi 15 = f15 := efi 15 (by decide)
  have ea16 : ca 16 = a16 := eca 16 (by decide)
  have ef16 : fi 16 = f16 := efi 16 (by decide)
  have ea17 : ca 17 = a17 := eca 17 (by decide)
  have ef17 : fi 17 = f17 := efi 17 (by decide)
  have ea18 : ca 18 = a18 := eca 18 (by decide)
  have ef18 : fi 18 = f18 := efi 18 (by decide)
  have ea19 : ca 19 = a19 := eca 19 (by decide)
  have ef19 : fi 19 = f19 := efi 19 (by decide)
  have TX : TxtX l.prog K mg ca fi := ⟨by rw [ea0, ef0]; exact e0.1, by rw [ea0]; exact e0.2, by rw [ea1, ef1]; exact e1.1, by rw [ea1]; exact e1.2, by rw [ea2, ef2]; exact e2.1, by rw [ea2]; exact e2.2, by rw [ea3, ef3]; exact e3.1, by rw [ea3]; exact e3.2, by rw [ea4, ef4]; exact e4.1, by rw [ea4]; exact e4.2, by rw [ea5, ef5]; exact e5.1, by rw [ea5]; exact e5.2, by rw [ea6, ef6]; exact e6.1, by rw [ea6]; exact e6.2, by rw [ea7, ef7]; exact e7.1, by rw [ea7]; exact e7.2, by rw [ea8, ef8]; exact e8.1, by rw [ea8]; exact e8.2, by rw [ea9, ef9]; exact e9.1, by rw [ea9]; exact e9.2, by rw [ea10, ef10]; exact e10.1, by rw [ea10]; exact e10.2, by rw [ea11, ef11]; exact e11.1, by rw [ea11]; exact e11.2, by rw [ea12, ef12]; exact e12.1, by rw [ea12]; exact e12.2, by rw [ea13, ef13]; exact e13.1, by rw [ea13]; exact e13.2, by rw [ea14, ef14]; exact e14.1, by rw [ea14]; exact e14.2, by rw [ea15, ef15]; exact e15.1, by rw [ea15]; exact e15.2, by rw [ea16, ef16]; exact e16.1, by rw [ea16]; exact e16.2, by rw [ea17, ef17]; exact e17.1, by rw [ea17]; exact e17.2, by rw [ea18, ef18]; exact e18.1, by rw [ea18]; exact e18.2, by rw [ea19, ef19]; exact e19.1, by rw [ea19]; exact e19.2⟩
  have TN : TxtN l.prog w K mg PR (ca 0) (fi 0) := ⟨TX.x_BadNumber, TX.r_BadNumber, kP⟩
  have g_jar : CalN l.prog w K mg base 1 "_law_jar" 1 [] (sk (spJar K)) := cal_mk d_law_jar (fun f fd F => ok_jar F T) rfl (fun _ _ _ _ _ _ us hl => match us, hl with | [_], _ => rfl)
  have g_draw : CalN l.prog w K mg base 1 "_law_draw" 2 [] (sk spDraw) := cal_mk d_law_draw (fun f fd F => ok_draw F T) rfl (fun _ _ _ _ _ _ us hl => match us, hl with | [_, _], _ => rfl)
  have g_pick : CalN l.prog w K mg base 2 "_law_pick" 2 [] (sk (spPick K)) := cal_mk d_law_pick (fun f fd F => ok_pick F T g_draw) rfl (fun _ _ _ _ _ _ us hl => match us, hl with | [_, _], _ => rfl)
  have g_big : CalN l.prog w K mg base 2 "_law_big" 1 [] (sk spBig) := cal_mk d_law_big (fun f fd F => ok_big F T g_draw) rfl (fun _ _ _ _ _ _ us hl => match us, hl with | [_], _ => rfl)
  have g_flip : CalN l.prog w K mg base 1 "_law_flip" 2 [] (sk spFlip) := cal_mk d_law_flip (fun f fd F => ok_flip F T) rfl (fun _ _ _ _ _ _ us hl => match us, hl with | [_, _], _ => rfl)
  have g_like : CalG l.prog w K mg base 3 "_law_like" 2 (spLike K 3) := cal_like d_law_like T 3
  have g_classes : CalG l.prog w K mg base 1 "_law_classes" 1 (spClasses K ca) := calG_mk d_law_classes (fun f fd F => ok_classes F T TC) rfl (fun _ _ _ _ _ _ us hl => match us, hl with | [_], _ => rfl)
  have g_parts : CalG l.prog w K mg base 2 "_law_parts_of" 1 (spParts K ca) := calG_mk d_law_parts_of (fun f fd F => ok_parts F T TC g_classes) rfl (fun _ _ _ _ _ _ us hl => match us, hl with | [_], _ => rfl)
  have g_made : CalG l.prog w K mg base 4 "_law_made_well" 2 (spMade K ca) := calG_mk d_law_made_well (fun f fd F => ok_made F g_parts g_like) rfl (fun _ _ _ _ _ _ us hl => match us, hl with | [_, _], _ => rfl)
  have g_check : CalN l.prog w K mg base 1 "check_prime" 1 [] (sk (spCheck (ca 0))) := cal_mkN d_check_prime (fun f fd F => ok_check F T TN) rfl (fun _ _ _ _ _ _ us hl => match us, hl with | [_], _ => rfl)
  have g_red : CalN l.prog w K mg base 2 "reduced" 2 [] (sk (spReduced (ca 0))) := cal_mkN d_reduced (fun f fd F => ok_reduced F g_check) rfl (fun _ _ _ _ _ _ us hl => match us, hl with | [_, _], _ => rfl)
  have g_inv : CalN l.prog w K mg base 3 "inverse_number" 2 [] (sk (spInverse (ca 0))) := cal_mkN d_inverse_number (fun f fd F => ok_inverse F T TN g_red) rfl (fun _ _ _ _ _ _ us hl => match us, hl with | [_, _], _ => rfl)
  have g_nop : CalN l.prog w K mg base 3 "_law_no_prime" 1 [] (sk spNoPrime) := cal_mk d_law_no_prime (fun f fd F => ok_noprime F T g_draw g_pick g_big) rfl (fun _ _ _ _ _ _ us hl => match us, hl with | [_], _ => rfl)
  have g_thing : CalN l.prog w K mg base 3 "_law_drawn_thing" 1 [] (sk spThing) := cal_mk d_law_drawn_thing (fun f fd F => ok_thing F T g_draw g_pick g_big) rfl (fun _ _ _ _ _ _ us hl => match us, hl with | [_], _ => rfl)
  have g_bounds : CalN l.prog w K mg base 4 "_law_bounds_told" 0 [] (sk spBounds) := cal_mkN d_law_bounds_told (fun f fd F => ok_bounds F T tB g_like) rfl (fun _ _ _ _ _ _ us hl => match us, hl with | [], _ => rfl)
  have g_raised : CalN l.prog w K mg base 1 "_law_raised" 3 [] (sk (spRaised ca)) := cal_mkN d_law_raised (fun f fd F => ok_raised F TX) rfl (fun _ _ _ _ _ _ us hl => match us, hl with | [_, _, _], _ => rfl)
  have g_one : CalN l.prog w K mg base 5 "_law_one_field" 1 [] (sk spOne) := cal_mkN d_law_one_field (fun f fd F => ok_one F TX TK g_made) rfl (fun _ _ _ _ _ _ us hl => match us, hl with | [_], _ => rfl)
  have g_two : CalN l.prog w K mg base 5 "_law_two_fields" 2 [] (sk spTwo) := cal_mkN d_law_two_fields (fun f fd F => ok_two F TX TK g_made) rfl (fun _ _ _ _ _ _ us hl => match us, hl with | [_, _], _ => rfl)
  have g_caught : CalN l.prog w K mg base 5 "_law_caught_by_bases" 2 [] (sk spTwo) := cal_mkN d_law_caught_by_bases (fun f fd F => ok_caught F T TK TM g_raised g_made) rfl (fun _ _ _ _ _ _ us hl => match us, hl with | [_, _], _ => rfl)
  have g_checkK : CalN l.prog w K mg base 1 "check_prime" 0 ["value"] (spCheckK (ca 0)) := by
    obtain ⟨f, h1, h2, h3⟩ := (cal_mkK (ks := ["value"]) (gV := fun zs => zs) (gU := fun ws => ws) d_check_prime (fun f fd F => ok_check F T TN) (fun r => r) (fun _ _ _ _ _ _ ws hl => match ws, hl with | [_], _ => rfl)).ex
    exact ⟨f, h1, h2, CalK.imp h3 fun vs zs H Q E h => by
      obtain ⟨n, rfl, rfl, h⟩ := h
      exact ⟨rfl, rfl, h⟩⟩
  have g_redK : CalN l.prog w K mg base 2 "reduced" 0 ["value", "prime"] (spRedK (ca 0)) := by
    obtain ⟨f, h1, h2, h3⟩ := (cal_mkK (ks := ["value", "prime"]) (gV := fun zs => zs.reverse) (gU := fun ws => ws.reverse) d_reduced (fun f fd F => ok_reduced F g_check) (fun r => vals_rev r) (fun _ _ _ _ _ _ ws hl => match ws, hl with | [_, _], _ => rfl)).ex
    exact ⟨f, h1, h2, CalK.imp h3 fun vs zs H Q E h => by
      obtain ⟨p, n, rfl, rfl, h⟩ := h
      exact ⟨rfl, rfl, h⟩⟩
  have g_invK : CalN l.prog w K mg base 3 "inverse_number" 0 ["prime", "value"] (spInvK (ca 0)) := by
    obtain ⟨f, h1, h2, h3⟩ := (cal_mkK (ks := ["prime", "value"]) (gV := fun zs => zs) (gU := fun ws => ws) d_inverse_number (fun f fd F => ok_inverse F T TN g_red) (fun r => r) (fun _ _ _ _ _ _ ws hl => match ws, hl with | [_, _], _ => rfl)).ex
    exact ⟨f, h1, h2, CalK.imp h3 fun vs zs H Q E h => by
      obtain ⟨p, n, rfl, rfl, h⟩ := h
      exact ⟨rfl, rfl, h⟩⟩
  obtain ⟨fr, fdr, FR, hr⟩ := d_law_refused.ex
  obtain ⟨ft, fdt, FT, ht⟩ := d_law_tried.ex
  have okN := ok_numbers (base := base) FN T TK TM TB FR hr FT ht g_draw g_pick g_big g_nop g_flip g_parts g_like g_check g_red g_inv g_checkK g_redK g_invK
  have g_num : CalN l.prog w K mg base 7 "_law_numbers_told" 1 [] (sk (spNumbers TP)) := by
    obtain ⟨oc, od, kV, doc, pm, an, ct, osl, rfl, lk, hcd⟩ := FN.ex
    exact ⟨fN, hmN, FN.kp, calK_of okN (.all (fun us hl => match us, hl with | [_], _ => rfl)) rfl⟩
  exact ok_law Ff T TN g_jar g_like g_bounds g_num g_thing g_one g_two g_caught
end
end K00
/-! part H00 -/
set_option Elab.async false
set_option maxRecDepth 100000
open PySem PySem.W PyProof.Rows
set_option maxHeartbeats 0 in
open_top head00 for PySem.Challenge.rw_goesround_k00_numbers_and_errors
/-! part END00 -/
set_option Elab.async false
set_option maxRecDepth 100000
open PySem PySem.W PyProof.Rows
namespace K00
open L2 GX
abbrev sX0 : Stmt := inClass (top 3) 0
abbrev sX1 : Stmt := inClass (top 4) 0
abbrev sX2 : Stmt := inClass (top 5) 0
abbrev sX3 : Stmt := inClass (top 6) 0
abbrev sX4 : Stmt := inClass (top 7) 0
abbrev sX5 : Stmt := inClass (top 8) 0
abbrev sX6 : Stmt := inClass (top 9) 0
abbrev sX7 : Stmt := inClass (top 10) 0
abbrev sX8 : Stmt := inClass (top 11) 0
abbrev sX9 : Stmt := inClass (top 12) 0
abbrev sX10 : Stmt := inClass (top 13) 0
abbrev sX11 : Stmt := inClass (top 14) 0
abbrev sX12 : Stmt := inClass (top 16) 0
abbrev sX13 : Stmt := inClass (top 17) 0
abbrev sX14 : Stmt := inClass (top 18) 0
abbrev sX15 : Stmt := inClass (top 19) 0
abbrev sX16 : Stmt := inClass (top 20) 0
abbrev sX17 : Stmt := inClass (top 21) 0
abbrev sX18 : Stmt := inClass (top 22) 0
abbrev sX19 : Stmt := inClass (top 23) 0
end K00
set_option maxHeartbeats 0 in
theorem PySem.Challenge.cw_goesround_k00_numbers_and_errors_holds : PySem.Challenge.rw_goesround_k00_numbers_and_errors.Holds := by
  refine head00 ?_
  k_fill
  refine GX.walk_ofDef (l := PySem.Challenge.rw_goesround_k00_numbers_and_errors) (n := 63) (k := 8) (x := "script") (CX := fun w => L2N.CX PySem.Challenge.rw_goesround_k00_numbers_and_errors.prog w) ["_law_numbers_told"] rfl (by decide) rfl ⟨rfl, by decide, by decide⟩ (fun y hy => by rw [List.mem_singleton.mp hy]; decide +kernel) (fun w h Y => PySem.W.km_in_of Y) ?F ?C
  case C =>
    intro w H s e s' h
    obtain ⟨_, _, _, _, _, _, _, _, _, _, _, _, z⟩ := h
    exact z.elim
  case F =>
    intro w mg fa h Y KX G hmg hTab
    have T := K00.txt_mk KX G (by k_is) (by k_is) (by k_is) (by k_is) (by k_is) (by k_is) (by k_is) (by k_is) (by k_is) (by k_is) (by k_is) (by k_is) (by k_is) (by k_is) (by k_is) (by k_is)
    have kP := K00.primes_mk KX (by k_is) (by k_is)
    have tB := K00.bounds_mk (w := w) KX G (by k_is) (by k_is) (by repeat (first | exact True.intro | refine ⟨⟨_, _, rfl, rfl⟩, ?_⟩)) (by decide) (by rfl) (by k_is) (by k_is) (by k_is) (by k_is) (by k_is) (by k_is) (by k_is) (by k_is) (by k_is) (by k_is) (by k_is) (by k_is) (by k_is) (by k_is) (by k_is) (by k_is) (by k_is)
    have c0 := GX.clsM_mk (x := "BadNumber") KX G (by k_is) (by k_is) (by k_is) (by rfl) (by rfl)
    have c1 := GX.clsM_mk (x := "BadName") KX G (by k_is) (by k_is) (by k_is) (by rfl) (by rfl)
    have c2 := GX.clsM_mk (x := "BadSum") KX G (by k_is) (by k_is) (by k_is) (by rfl) (by rfl)
    have c3 := GX.clsM_mk (x := "BadTable") KX G (by k_is) (by k_is) (by k_is) (by rfl) (by rfl)
    have c4 := GX.clsM_mk (x := "BadDeed") KX G (by k_is) (by k_is) (by k_is) (by rfl) (by rfl)
    have c5 := GX.clsM_mk (x := "BadBook") KX G (by k_is) (by k_is) (by k_is) (by rfl) (by rfl)
    have c6 := GX.clsM_mk (x := "BadPattern") KX G (by k_is) (by k_is) (by k_is) (by rfl) (by rfl)
    have c7 := GX.clsM_mk (x := "BadTorus") KX G (by k_is) (by k_is) (by k_is) (by rfl) (by rfl)
    have c8 := GX.clsM_mk (x := "BadGate") KX G (by k_is) (by k_is) (by k_is) (by rfl) (by rfl)
    have c9 := GX.clsM_mk (x := "BadRule") KX G (by k_is) (by k_is) (by k_is) (by rfl) (by rfl)
    have c10 := GX.clsM_mk (x := "BadCharge") KX G (by k_is) (by k_is) (by k_is) (by rfl) (by rfl)
    have c11 := GX.clsM_mk (x := "BadScript") KX G (by k_is) (by k_is) (by k_is) (by rfl) (by rfl)
    have c12 := GX.clsM_mk (x := "Clashing") KX G (by k_is) (by k_is) (by k_is) (by rfl) (by rfl)
    have c13 := GX.clsM_mk (x := "Unlike") KX G (by k_is) (by k_is) (by k_is) (by rfl) (by rfl)
    have c14 := GX.clsM_mk (x := "NotTight") KX G (by k_is) (by k_is) (by k_is) (by rfl) (by rfl)
    have c15 := GX.clsM_mk (x := "NotRule") KX G (by k_is) (by k_is) (by k_is) (by rfl) (by rfl)
    have c16 := GX.clsM_mk (x := "NotFitting") KX G (by k_is) (by k_is) (by k_is) (by rfl) (by rfl)
    have c17 := GX.clsM_mk (x := "TooMany") KX G (by k_is) (by k_is) (by k_is) (by rfl) (by rfl)
    have c18 := GX.clsM_mk (x := "NoSuch") KX G (by k_is) (by k_is) (by k_is) (by rfl) (by rfl)
    have c19 := GX.clsM_mk (x := "Ended") KX G (by k_is) (by k_is) (by k_is) (by rfl) (by rfl)
    have c20 := GX.clsM_mk (x := "Malformed") KX G (by k_is) (by k_is) (by k_is) (by rfl) (by rfl)
    have c21 := GX.clsM_mk (x := "Refused") KX G (by k_is) (by k_is) (by k_is) (by rfl) (by rfl)
    have n0_0 := K00.no_mk "value" c0 (by k_is)
    have x0 := c0.xk (by decide +kernel) (by decide +kernel) (by k_is) (by k_is) (by k_is) (by k_is) (by k_is)
    have e0 := GX.exj_mk (prog := PySem.Challenge.rw_goesround_k00_numbers_and_errors.prog) (B := "ValueError") (newId := "ValueError.__new__") (initId := "ValueError.__init__") (bmB := [.type "ValueError", .type "Exception", .type "BaseException", .type "object"]) (st := K00.sX0) (fl := ["value"]) ("value", _, _, _, _) [] rfl KX G c0 (by k_is) (by k_is) (by k_is) (by k_is) (by k_is) (by k_is) (by kx_is) (by kx_is) (by k_is) (K00.no_one n0_0) (by ks_is) (by k_is) (by k_is) (by k_is) (by decide +kernel) (by decide +kernel) rfl (by decide +kernel) (by rfl) (by decide +kernel) (by decide) (by decide) (by decide) (by rfl) rfl (fun us hl => match us, hl with | [_, _], _ => rfl) (fun a us hl => match us, hl with | [_], _ => rfl) (by decide +kernel) (by decide +kernel) (by decide +kernel) (by decide +kernel) (by decide +kernel) rfl rfl rfl _ (fun env => by rfl)
    have n1_0 := K00.no_mk "name" c1 (by k_is)
    have x1 := c1.xk (by decide +kernel) (by decide +kernel) (by k_is) (by k_is) (by k_is) (by k_is) (by k_is)
    have e1 := GX.exj_mk (prog := PySem.Challenge.rw_goesround_k00_numbers_and_errors.prog) (B := "ValueError") (newId := "ValueError.__new__") (initId := "ValueError.__init__") (bmB := [.type "ValueError", .type "Exception", .type "BaseException", .type "object"]) (st := K00.sX1) (fl := ["name"]) ("name", _, _, _, _) [] rfl KX G c1 (by k_is) (by k_is) (by k_is) (by k_is) (by k_is) (by k_is) (by kx_is) (by kx_is) (by k_is) (K00.no_one n1_0) (by ks_is) (by k_is) (by k_is) (by k_is) (by decide +kernel) (by decide +kernel) rfl (by decide +kernel) (by rfl) (by decide +kernel) (by decide) (by decide) (by decide) (by rfl) rfl (fun us hl => match us, hl with | [_, _], _ => rfl) (fun a us hl => match us, hl with | [_], _ => rfl) (by decide +kernel) (by decide +kernel) (by decide +kernel) (by decide +kernel) (by decide +kernel) rfl rfl rfl _ (fun env => by rfl)
    have n2_0 := K00.no_mk "term" c2 (by k_is)
    have x2 := c2.xk (by decide +kernel) (by decide +kernel) (by k_is) (by k_is) (by k_is) (by k_is) (by k_is)
    have e2 := GX.exj_mk (prog := PySem.Challenge.rw_goesround_k00_numbers_and_errors.prog) (B := "ValueError") (newId := "ValueError.__new__") (initId := "ValueError.__init__") (bmB := [.type "ValueError", .type "Exception", .type "BaseException", .type "object"]) (st := K00.sX2) (fl := ["term"]) ("term", _, _, _, _) [] rfl KX G c2 (by k_is) (by k_is) (by k_is) (by k_is) (by k_is) (by k_is) (by kx_is) (by kx_is) (by k_is) (K00.no_one n2_0) (by ks_is) (by k_is) (by k_is) (by k_is) (by decide +kernel) (by decide +kernel) rfl (by decide +kernel) (by rfl) (by decide +kernel) (by decide) (by decide) (by decide) (by rfl) rfl (fun us hl => match us, hl with | [_, _], _ => rfl) (fun a us hl => match us, hl with | [_], _ => rfl) (by decide +kernel) (by decide +kernel) (by decide +kernel) (by decide +kernel) (by decide +kernel) rfl rfl rfl _ (fun env => by rfl)
    have n3_0 := K00.no_mk "row" c3 (by k_is)
    have x3 := c3.xk (by decide +kernel) (by decide +kernel) (by k_is) (by k_is) (by k_is) (by k_is) (by k_is)
    have e3 := GX.exj_mk (prog := PySem.Challenge.rw_goesround_k00_numbers_and_errors.prog) (B := "ValueError") (newId := "ValueError.__new__") (initId := "ValueError.__init__") (bmB := [.type "ValueError", .type "Exception", .type "BaseException", .type "object"]) (st := K00.sX3) (fl := ["row"]) ("row", _, _, _, _) [] rfl KX G c3 (by k_is) (by k_is) (by k_is) (by k_is) (by k_is) (by k_is) (by kx_is) (by kx_is) (by k_is) (K00.no_one n3_0) (by ks_is) (by k_is) (by k_is) (by k_is) (by decide +kernel) (by decide +kernel) rfl (by decide +kernel) (by rfl) (by decide +kernel) (by decide) (by decide) (by decide) (by rfl) rfl (fun us hl => match us, hl with | [_, _], _ => rfl) (fun a us hl => match us, hl with | [_], _ => rfl) (by decide +kernel) (by decide +kernel) (by decide +kernel) (by decide +kernel) (by decide +kernel) rfl rfl rfl _ (fun env => by rfl)
    have n4_0 := K00.no_mk "at" c4 (by k_is)
    have x4 := c4.xk (by decide +kernel) (by decide +kernel) (by k_is) (by k_is) (by k_is) (by k_is) (by k_is)
    have e4 := GX.exj_mk (prog := PySem.Challenge.rw_goesround_k00_numbers_and_errors.prog) (B := "ValueError") (newId := "ValueError.__new__") (initId := "ValueError.__init__") (bmB := [.type "ValueError", .type "Exception", .type "BaseException", .type "object"]) (st := K00.sX4) (fl := ["at"]) ("at", _, _, _, _) [] rfl KX G c4 (by k_is) (by k_is) (by k_is) (by k_is) (by k_is) (by k_is) (by kx_is) (by kx_is) (by k_is) (K00.no_one n4_0) (by ks_is) (by k_is) (by k_is) (by k_is) (by decide +kernel) (by decide +kernel) rfl (by decide +kernel) (by rfl) (by decide +kernel) (by decide) (by decide) (by decide) (by rfl) rfl (fun us hl => match us, hl with | [_, _], _ => rfl) (fun a us hl => match us, hl with | [_], _ => rfl) (by decide +kernel) (by decide +kernel) (by decide +kernel) (by decide +kernel) (by decide +kernel) rfl rfl rfl _ (fun env => by rfl)
    have n5_0 := K00.no_mk "line" c5 (by k_is)
    have x5 := c5.xk (by decide +kernel) (by decide +kernel) (by k_is) (by k_is) (by k_is) (by k_is) (by k_is)
    have e5 := GX.exj_mk (prog := PySem.Challenge.rw_goesround_k00_numbers_and_errors.prog) (B := "ValueError") (newId := "ValueError.__new__") (initId := "ValueError.__init__") (bmB := [.type "ValueError", .type "Exception", .type "BaseException", .type "object"]) (st := K00.sX5) (fl := ["line"]) ("line", _, _, _, _) [] rfl KX G c5 (by k_is) (by k_is) (by k_is) (by k_is) (by k_is) (by k_is) (by kx_is) (by kx_is) (by k_is) (K00.no_one n5_0) (by ks_is) (by k_is) (by k_is) (by k_is) (by decide +kernel) (by decide +kernel) rfl (by decide +kernel) (by rfl) (by decide +kernel) (by decide) (by decide) (by decide) (by rfl) rfl (fun us hl => match us, hl with | [_, _], _ => rfl) (fun a us hl => match us, hl with | [_], _ => rfl) (by decide +kernel) (by decide +kernel) (by decide +kernel) (by decide +kernel) (by decide +kernel) rfl rfl rfl _ (fun env => by rfl)
    have n6_0 := K00.no_mk "at" c6 (by k_is)
    have x6 := c6.xk (by decide +kernel) (by decide +kernel) (by k_is) (by k_is) (by k_is) (by k_is) (by k_is)
    have e6 := GX.exj_mk (prog := PySem.Challenge.rw_goesround_k00_numbers_and_errors.prog) (B := "ValueError") (newId := "ValueError.__new__") (initId := "ValueError.__init__") (bmB := [.type "ValueError", .type "Exception", .type "BaseException", .type "object"]) (st := K00.sX6) (fl := ["at"]) ("at", _, _, _, _) [] rfl KX G c6 (by k_is) (by k_is) (by k_is) (by k_is) (by k_is) (by k_is) (by kx_is) (by kx_is) (by k_is) (K00.no_one n6_0) (by ks_is) (by k_is) (by k_is) (by k_is) (by decide +kernel) (by decide +kernel) rfl (by decide +kernel) (by rfl) (by decide +kernel) (by decide) (by decide) (by decide) (by rfl) rfl (fun us hl => match us, hl with | [_, _], _ => rfl) (fun a us hl => match us, hl with | [_], _ => rfl) (by decide +kernel) (by decide +kernel) (by decide +kernel) (by decide +kernel) (by decide +kernel) rfl rfl rfl _ (fun env => by rfl)
    have n7_0 := K00.no_mk "at" c7 (by k_is)
    have x7 := c7.xk (by decide +kernel) (by decide +kernel) (by k_is) (by k_is) (by k_is) (by k_is) (by k_is)
    have e7 := GX.exj_mk (prog := PySem.Challenge.rw_goesround_k00_numbers_and_errors.prog) (B := "ValueError") (newId := "ValueError.__new__") (initId := "ValueError.__init__") (bmB := [.type "ValueError", .type "Exception", .type "BaseException", .type "object"]) (st := K00.sX7) (fl := ["at"]) ("at", _, _, _, _) [] rfl KX G c7 (by k_is) (by k_is) (by k_is) (by k_is) (by k_is) (by k_is) (by kx_is) (by kx_is) (by k_is) (K00.no_one n7_0) (by ks_is) (by k_is) (by k_is) (by k_is) (by decide +kernel) (by decide +kernel) rfl (by decide +kernel) (by rfl) (by decide +kernel) (by decide) (by decide) (by decide) (by rfl) rfl (fun us hl => match us, hl with | [_, _], _ => rfl) (fun a us hl => match us, hl with | [_], _ => rfl) (by decide +kernel) (by decide +kernel) (by decide +kernel) (by decide +kernel) (by decide +kernel) rfl rfl rfl _ (fun env => by rfl)
    have n8_0 := K00.no_mk "line" c8 (by k_is)
    have x8 := c8.xk (by decide +kernel) (by decide +kernel) (by k_is) (by k_is) (by k_is) (by k_is) (by k_is)
    have e8 := GX.exj_mk (prog := PySem.Challenge.rw_goesround_k00_numbers_and_errors.prog) (B := "ValueError") (newId := "ValueError.__new__") (initId := "ValueError.__init__") (bmB := [.type "ValueError", .type "Exception", .type "BaseException", .type "object"]) (st := K00.sX8) (fl := ["line"]) ("line", _, _, _, _) [] rfl KX G c8 (by k_is) (by k_is) (by k_is) (by k_is) (by k_is) (by k_is) (by kx_is) (by kx_is) (by k_is) (K00.no_one n8_0) (by ks_is) (by k_is) (by k_is) (by k_is) (by decide +kernel) (by decide +kernel) rfl (by decide +kernel) (by rfl) (by decide +kernel) (by decide) (by decide) (by decide) (by rfl) rfl (fun us hl => match us, hl with | [_, _], _ => rfl) (fun a us hl => match us, hl with | [_], _ => rfl) (by decide +kernel) (by decide +kernel) (by decide +kernel) (by decide +kernel) (by decide +kernel) rfl rfl rfl _ (fun env => by rfl)
    have n9_0 := K00.no_mk "line" c9 (by k_is)
    have x9 := c9.xk (by decide +kernel) (by decide +kernel) (by k_is) (by k_is) (by k_is) (by k_is) (by k_is)
    have e9 := GX.exj_mk (prog := PySem.Challenge.rw_goesround_k00_numbers_and_errors.prog) (B := "ValueError") (newId := "ValueError.__new__") (initId := "ValueError.__init__") (bmB := [.type "ValueError", .type "Exception", .type "BaseException", .type "object"]) (st := K00.sX9) (fl := ["line"]) ("line", _, _, _, _) [] rfl KX G c9 (by k_is) (by k_is) (by k_is) (by k_is) (by k_is) (by k_is) (by kx_is) (by kx_is) (by k_is) (K00.no_one n9_0) (by ks_is) (by k_is) (by k_is) (by k_is) (by decide +kernel) (by decide +kernel) rfl (by decide +kernel) (by rfl) (by decide +kernel) (by decide) (by decide) (by decide) (by rfl) rfl (fun us hl => match us, hl with | [_, _], _ => rfl) (fun a us hl => match us, hl with | [_], _ => rfl) (by decide +kernel) (by decide +kernel) (by decide +kernel) (by decide +kernel) (by decide +kernel) rfl rfl rfl _ (fun env => by rfl)
    have n10_0 := K00.no_mk "length" c10 (by k_is)
    have x10 := c10.xk (by decide +kernel) (by decide +kernel) (by k_is) (by k_is) (by k_is) (by k_is) (by k_is)
    have e10 := GX.exj_mk (prog := PySem.Challenge.rw_goesround_k00_numbers_and_errors.prog) (B := "ValueError") (newId := "ValueError.__new__") (initId := "ValueError.__init__") (bmB := [.type "ValueError", .type "Exception", .type "BaseException", .type "object"]) (st := K00.sX10) (fl := ["length"]) ("length", _, _, _, _) [] rfl KX G c10 (by k_is) (by k_is) (by k_is) (by k_is) (by k_is) (by k_is) (by kx_is) (by kx_is) (by k_is) (K00.no_one n10_0) (by ks_is) (by k_is) (by k_is) (by k_is) (by decide +kernel) (by decide +kernel) rfl (by decide +kernel) (by rfl) (by decide +kernel) (by decide) (by decide) (by decide) (by rfl) rfl (fun us hl => match us, hl with | [_, _], _ => rfl) (fun a us hl => match us, hl with | [_], _ => rfl) (by decide +kernel) (by decide +kernel) (by decide +kernel) (by decide +kernel) (by decide +kernel) rfl rfl rfl _ (fun env => by rfl)
    have n11_0 := K00.no_mk "line" c11 (by k_is)
    have x11 := c11.xk (by decide +kernel) (by decide +kernel) (by k_is) (by k_is) (by k_is) (by k_is) (by k_is)
    have e11 := GX.exj_mk (prog := PySem.Challenge.rw_goesround_k00_numbers_and_errors.prog) (B := "ValueError") (newId := "ValueError.__new__") (initId := "ValueError.__init__") (bmB := [.type "ValueError", .type "Exception", .type "BaseException", .type "object"]) (st := K00.sX11) (fl := ["line"]) ("line", _, _, _, _) [] rfl KX G c11 (by k_is) (by k_is) (by k_is) (by k_is) (by k_is) (by k_is) (by kx_is) (by kx_is) (by k_is) (K00.no_one n11_0) (by ks_is) (by k_is) (by k_is) (by k_is) (by decide +kernel) (by decide +kernel) rfl (by decide +kernel) (by rfl) (by decide +kernel) (by decide) (by decide) (by decide) (by rfl) rfl (fun us hl => match us, hl with | [_, _], _ => rfl) (fun a us hl => match us, hl with | [_], _ => rfl) (by decide +kernel) (by decide +kernel) (by decide +kernel) (by decide +kernel) (by decide +kernel) rfl rfl rfl _ (fun env => by rfl)
    have n12_0 := K00.no_mk "first" c12 (by k_is)
    have n12_1 := K00.no_mk "second" c12 (by k_is)
    have x12 := c12.xk (by decide +kernel) (by decide +kernel) (by k_is) (by k_is) (by k_is) (by k_is) (by k_is)
    have e12 := GX.exj_mk (prog := PySem.Challenge.rw_goesround_k00_numbers_and_errors.prog) (B := "ValueError") (newId := "ValueError.__new__") (initId := "ValueError.__init__") (bmB := [.type "ValueError", .type "Exception", .type "BaseException", .type "object"]) (st := K00.sX12) (fl := ["first", "second"]) ("first", _, _, _, _) [("second", _, _, _, _)] rfl KX G c12 (by k_is) (by k_is) (by k_is) (by k_is) (by k_is) (by k_is) (by kx_is) (by kx_is) (by k_is) (K00.no_two n12_0 n12_1) (by ks_is) (by k_is) (by k_is) (by k_is) (by decide +kernel) (by decide +kernel) rfl (by decide +kernel) (by rfl) (by decide +kernel) (by decide) (by decide) (by decide) (by rfl) rfl (fun us hl => match us, hl with | [_, _, _], _ => rfl) (fun a us hl => match us, hl with | [_, _], _ => rfl) (by decide +kernel) (by decide +kernel) (by decide +kernel) (by decide +kernel) (by decide +kernel) rfl rfl rfl _ (fun env => by rfl)
    have n13_0 := K00.no_mk "what" c13 (by k_is)
    have x13 := c13.xk (by decide +kernel) (by decide +kernel) (by k_is) (by k_is) (by k_is) (by k_is) (by k_is)
    have e13 := GX.exj_mk (prog := PySem.Challenge.rw_goesround_k00_numbers_and_errors.prog) (B := "ValueError") (newId := "ValueError.__new__") (initId := "ValueError.__init__") (bmB := [.type "ValueError", .type "Exception", .type "BaseException", .type "object"]) (st := K00.sX13) (fl := ["what"]) ("what", _, _, _, _) [] rfl KX G c13 (by k_is) (by k_is) (by k_is) (by k_is) (by k_is) (by k_is) (by kx_is) (by kx_is) (by k_is) (K00.no_one n13_0) (by ks_is) (by k_is) (by k_is) (by k_is) (by decide +kernel) (by decide +kernel) rfl (by decide +kernel) (by rfl) (by decide +kernel) (by decide) (by decide) (by decide) (by rfl) rfl (fun us hl => match us, hl with | [_, _], _ => rfl) (fun a us hl => match us, hl with | [_], _ => rfl) (by decide +kernel) (by decide +kernel) (by decide +kernel) (by decide +kernel) (by decide +kernel) rfl rfl rfl _ (fun env => by rfl)
    have n14_0 := K00.no_mk "kind" c14 (by k_is)
    have x14 := c14.xk (by decide +kernel) (by decide +kernel) (by k_is) (by k_is) (by k_is) (by k_is) (by k_is)
    have e14 := GX.exj_mk (prog := PySem.Challenge.rw_goesround_k00_numbers_and_errors.prog) (B := "ValueError") (newId := "ValueError.__new__") (initId := "ValueError.__init__") (bmB := [.type "ValueError", .type "Exception", .type "BaseException", .type "object"]) (st := K00.sX14) (fl := ["kind"]) ("kind", _, _, _, _) [] rfl KX G c14 (by k_is) (by k_is) (by k_is) (by k_is) (by k_is) (by k_is) (by kx_is) (by kx_is) (by k_is) (K00.no_one n14_0) (by ks_is) (by k_is) (by k_is) (by k_is) (by decide +kernel) (by decide +kernel) rfl (by decide +kernel) (by rfl) (by decide +kernel) (by decide) (by decide) (by decide) (by rfl) rfl (fun us hl => match us, hl with | [_, _], _ => rfl) (fun a us hl => match us, hl with | [_], _ => rfl) (by decide +kernel) (by decide +kernel) (by decide +kernel) (by decide +kernel) (by decide +kernel) rfl rfl rfl _ (fun env => by rfl)
    have n15_0 := K00.no_mk "row" c15 (by k_is)
    have x15 := c15.xk (by decide +kernel) (by decide +kernel) (by k_is) (by k_is) (by k_is) (by k_is) (by k_is)
    have e15 := GX.exj_mk (prog := PySem.Challenge.rw_goesround_k00_numbers_and_errors.prog) (B := "ValueError") (newId := "ValueError.__new__") (initId := "ValueError.__init__") (bmB := [.type "ValueError", .type "Exception", .type "BaseException", .type "object"]) (st := K00.sX15) (fl := ["row"]) ("row", _, _, _, _) [] rfl KX G c15 (by k_is) (by k_is) (by k_is) (by k_is) (by k_is) (by k_is) (by kx_is) (by kx_is) (by k_is) (K00.no_one n15_0) (by ks_is) (by k_is) (by k_is) (by k_is) (by decide +kernel) (by decide +kernel) rfl (by decide +kernel) (by rfl) (by decide +kernel) (by decide) (by decide) (by decide) (by rfl) rfl (fun us hl => match us, hl with | [_, _], _ => rfl) (fun a us hl => match us, hl with | [_], _ => rfl) (by decide +kernel) (by decide +kernel) (by decide +kernel) (by decide +kernel) (by decide +kernel) rfl rfl rfl _ (fun env => by rfl)
    have n16_0 := K00.no_mk "what" c16 (by k_is)
    have x16 := c16.xk (by decide +kernel) (by decide +kernel) (by k_is) (by k_is) (by k_is) (by k_is) (by k_is)
    have e16 := GX.exj_mk (prog := PySem.Challenge.rw_goesround_k00_numbers_and_errors.prog) (B := "ValueError") (newId := "ValueError.__new__") (initId := "ValueError.__init__") (bmB := [.type "ValueError", .type "Exception", .type "BaseException", .type "object"]) (st := K00.sX16) (fl := ["what"]) ("what", _, _, _, _) [] rfl KX G c16 (by k_is) (by k_is) (by k_is) (by k_is) (by k_is) (by k_is) (by kx_is) (by kx_is) (by k_is) (K00.no_one n16_0) (by ks_is) (by k_is) (by k_is) (by k_is) (by decide +kernel) (by decide +kernel) rfl (by decide +kernel) (by rfl) (by decide +kernel) (by decide) (by decide) (by decide) (by rfl) rfl (fun us hl => match us, hl with | [_, _], _ => rfl) (fun a us hl => match us, hl with | [_], _ => rfl) (by decide +kernel) (by decide +kernel) (by decide +kernel) (by decide +kernel) (by decide +kernel) rfl rfl rfl _ (fun env => by rfl)
    have n17_0 := K00.no_mk "what" c17 (by k_is)
    have n17_1 := K00.no_mk "size" c17 (by k_is)
    have x17 := c17.xk (by decide +kernel) (by decide +kernel) (by k_is) (by k_is) (by k_is) (by k_is) (by k_is)
    have e17 := GX.exj_mk (prog := PySem.Challenge.rw_goesround_k00_numbers_and_errors.prog) (B := "ValueError") (newId := "ValueError.__new__") (initId := "ValueError.__init__") (bmB := [.type "ValueError", .type "Exception", .type "BaseException", .type "object"]) (st := K00.sX17) (fl := ["what", "size"]) ("what", _, _, _, _) [("size", _, _, _, _)] rfl KX G c17 (by k_is) (by k_is) (by k_is) (by k_is) (by k_is) (by k_is) (by kx_is) (by kx_is) (by k_is) (K00.no_two n17_0 n17_1) (by ks_is) (by k_is) (by k_is) (by k_is) (by decide +kernel) (by decide +kernel) rfl (by decide +kernel) (by rfl) (by decide +kernel) (by decide) (by decide) (by decide) (by rfl) rfl (fun us hl => match us, hl with | [_, _, _], _ => rfl) (fun a us hl => match us, hl with | [_, _], _ => rfl) (by decide +kernel) (by decide +kernel) (by decide +kernel) (by decide +kernel) (by decide +kernel) rfl rfl rfl _ (fun env => by rfl)
    have n18_0 := K00.no_mk "name" c18 (by k_is)
    have x18 := c18.xk (by decide +kernel) (by decide +kernel) (by k_is) (by k_is) (by k_is) (by k_is) (by k_is)
    have e18 := GX.exj_mk (prog := PySem.Challenge.rw_goesround_k00_numbers_and_errors.prog) (B := "LookupError") (newId := "LookupError.__new__") (initId := "LookupError.__init__") (bmB := [.type "LookupError", .type "Exception", .type "BaseException", .type "object"]) (st := K00.sX18) (fl := ["name"]) ("name", _, _, _, _) [] rfl KX G c18 (by k_is) (by k_is) (by k_is) (by k_is) (by k_is) (by k_is) (by kx_is) (by kx_is) (by k_is) (K00.no_one n18_0) (by ks_is) (by k_is) (by k_is) (by k_is) (by decide +kernel) (by decide +kernel) rfl (by decide +kernel) (by rfl) (by decide +kernel) (by decide) (by decide) (by decide) (by rfl) rfl (fun us hl => match us, hl with | [_, _], _ => rfl) (fun a us hl => match us, hl with | [_], _ => rfl) (by decide +kernel) (by decide +kernel) (by decide +kernel) (by decide +kernel) (by decide +kernel) rfl rfl rfl _ (fun env => by rfl)
    have n19_0 := K00.no_mk "what" c19 (by k_is)
    have x19 := c19.xk (by decide +kernel) (by decide +kernel) (by k_is) (by k_is) (by k_is) (by k_is) (by k_is)
    have e19 := GX.exj_mk (prog := PySem.Challenge.rw_goesround_k00_numbers_and_errors.prog) (B := "RuntimeError") (newId := "RuntimeError.__new__") (initId := "RuntimeError.__init__") (bmB := [.type "RuntimeError", .type "Exception", .type "BaseException", .type "object"]) (st := K00.sX19) (fl := ["what"]) ("what", _, _, _, _) [] rfl KX G c19 (by k_is) (by k_is) (by k_is) (by k_is) (by k_is) (by k_is) (by kx_is) (by kx_is) (by k_is) (K00.no_one n19_0) (by ks_is) (by k_is) (by k_is) (by k_is) (by decide +kernel) (by decide +kernel) rfl (by decide +kernel) (by rfl) (by decide +kernel) (by decide) (by decide) (by decide) (by rfl) rfl (fun us hl => match us, hl with | [_, _], _ => rfl) (fun a us hl => match us, hl with | [_], _ => rfl) (by decide +kernel) (by decide +kernel) (by decide +kernel) (by decide +kernel) (by decide +kernel) rfl rfl rfl _ (fun env => by rfl)
    have d_check_prime := GX.def_mk (x := "check_prime") (st := K00.s_check_prime) KX G (by k_is) (by k_is) (by k_is) (by k_is)
    have d_reduced := GX.def_mk (x := "reduced") (st := K00.s_reduced) KX G (by k_is) (by k_is) (by k_is) (by k_is)
    have d_inverse_number := GX.def_mk (x := "inverse_number") (st := K00.s_inverse_number) KX G (by k_is) (by k_is) (by k_is) (by k_is)
    have d_law_jar := GX.def_mk (x := "_law_jar") (st := K00.s_law_jar) KX G (by k_is) (by k_is) (by k_is) (by k_is)
    have d_law_draw := GX.def_mk (x := "_law_draw") (st := K00.s_law_draw) KX G (by k_is) (by k_is) (by k_is) (by k_is)
    have d_law_pick := GX.def_mk (x := "_law_pick") (st := K00.s_law_pick) KX G (by k_is) (by k_is) (by k_is) (by k_is)
    have d_law_big := GX.def_mk (x := "_law_big") (st := K00.s_law_big) KX G (by k_is) (by k_is) (by k_is) (by k_is)
    have d_law_like := GX.def_mk (x := "_law_like") (st := K00.s_law_like) KX G (by k_is) (by k_is) (by k_is) (by k_is)
    have d_law_classes := GX.def_mk (x := "_law_classes") (st := K00.s_law_classes) KX G (by k_is) (by k_is) (by k_is) (by k_is)
    have d_law_parts_of := GX.def_mk (x := "_law_parts_of") (st := K00.s_law_parts_of) KX G (by k_is) (by k_is) (by k_is) (by k_is)
    have d_law_tried := GX.def_mk (x := "_law_tried") (st := K00.s_law_tried) KX G (by k_is) (by k_is) (by k_is) (by k_is)
    have d_law_refused := GX.def_mk (x := "_law_refused") (st := K00.s_law_refused) KX G (by k_is) (by k_is) (by k_is) (by k_is)
    have d_law_flip := GX.def_mk (x := "_law_flip") (st := K00.s_law_flip) KX G (by k_is) (by k_is) (by k_is) (by k_is)
    have d_law_no_prime := GX.def_mk (x := "_law_no_prime") (st := K00.s_law_no_prime) KX G (by k_is) (by k_is) (by k_is) (by k_is)
    have d_law_bounds_told := GX.def_mk (x := "_law_bounds_told") (st := K00.s_law_bounds_told) KX G (by k_is) (by k_is) (by k_is) (by k_is)
    have d_law_drawn_thing := GX.def_mk (x := "_law_drawn_thing") (st := K00.s_law_drawn_thing) KX G (by k_is) (by k_is) (by k_is) (by k_is)
    have d_law_made_well := GX.def_mk (x := "_law_made_well") (st := K00.s_law_made_well) KX G (by k_is) (by k_is) (by k_is) (by k_is)
    have d_law_one_field := GX.def_mk (x := "_law_one_field") (st := K00.s_law_one_field) KX G (by k_is) (by k_is) (by k_is) (by k_is)
    have d_law_two_fields := GX.def_mk (x := "_law_two_fields") (st := K00.s_law_two_fields) KX G (by k_is) (by k_is) (by k_is) (by k_is)
    have d_law_caught_by_bases := GX.def_mk (x := "_law_caught_by_bases") (st := K00.s_law_caught_by_bases) KX G (by k_is) (by k_is) (by k_is) (by k_is)
    have d_law_raised := GX.def_mk (x := "_law_raised") (st := K00.s_law_raised) KX G (by k_is) (by k_is) (by k_is) (by k_is)
    have d_law := GX.def_mk (x := "law") (st := K00.s_law) KX G (by k_is) (by k_is) (by k_is) (by k_is)
    have dN := K00.defC_mk (x := "_law_numbers_told") (st := K00.s_law_numbers_told) KX G (by k_is) (by k_is) (by k_is) (by k_is) (by k_is) (by rfl) (by rfl)
    have ka := K00.cls_all _ rfl c0 c1 c2 c3 c4 c5 c6 c7 c8 c9 c10 c11 c12 c13 c14 c15 c16 c17 c18 c19 c20 c21 x0 n0_0 x1 n1_0 x2 n2_0 x3 n3_0 x4 n4_0 x5 n5_0 x6 n6_0 x7 n7_0 x8 n8_0 x9 n9_0 x10 n10_0 x11 n11_0 x12 n12_0 n12_1 x13 n13_0 x14 n14_0 x15 n15_0 x16 n16_0 x17 n17_0 n17_1 x18 n18_0 x19 n19_0 (by decide +kernel) (by decide +kernel)
    exact K00.all_mk (by decide) (fun i _ => rfl) hmg T kP tB ka e0 e1 e2 e3 e4 e5 e6 e7 e8 e9 e10 e11 e12 e13 e14 e15 e16 e17 e18 e19 d_check_prime d_reduced d_inverse_number d_law_jar d_law_draw d_law_pick d_law_big d_law_like d_law_classes d_law_parts_of d_law_tried d_law_refused d_law_flip d_law_no_prime d_law_bounds_told d_law_drawn_thing d_law_made_well d_law_one_field d_law_two_fields d_law_caught_by_bases d_law_raised d_law dN (dN.tab fun f hf => hTab _ (List.mem_singleton.mpr rfl) f hf)
