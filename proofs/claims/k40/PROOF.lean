import PyProof.Rows.All
import Wide.All
import OpenK.AllK
import Wide.FinOn
import PyProof.EqAt
import PyProof.EqKinds
import PyProof.TupleCall
import HandS.ForExc
import HandS.ExcInit
import KE.KExcSuper
import KE.KExcInit
import HandS.ForMost
import HandS.ExcCtx
import HandS.HotCalls
import HandS.IsInst
import KE.KExcIs
import KE.KTryMore
import HandS.Defaults
import HandS.MakeKw
import HandS.Property
import HandS.ExcField
import HandS.Flow
import HandS.FStr
import HandS.Zip
import HandS.StrMore
import HandS.More
import KE.RegKSuper
import KE.KExcLine
import PySem.Challenge.RW_goesround_k40_tori_read_and_told
/-! part GxA -/
set_option Elab.async false
set_option linter.all false
set_option maxRecDepth 100000
set_option maxHeartbeats 4000000
/-! An own exception class whose __init__(self, f) says super().__init__('..') and self.f = f: the class called. -/
namespace GX
open PySem PySem.W PySem.Calls PyProof.Rows Builtin Builtin.ObjectAttr
section
variable {prog : Program} {w : World} {M : Model} {A : Around} {E : Value → Shared → Prop} {h : Heap} {g : Array GenState} {d : Drawn} {t : Nat} {os : OsState}

/-- super() in a def's body, at the heap itself -/
theorem sup_node {body : List Stmt} {q : Str} {scope : Scope} {p0 p1 : Pos} {attr : Str} {whole : Sem Value} {fd : FuncData} {ar : Arg} {vs : Array Value} {file : Str} {tf : Tok} {f cda cc x C D L : Addr}
    {of occ oc ox : Obj} {cdD : ClassData} {K : Frag} {m mg mb : Str → Option Value} {s : Shared} {Q : Value → Shared → Prop}
    (X : K.In s.heap) (hn : s.heap.Ns L m) (hg : s.heap.Ns mainGlobals mg) (hb : s.heap.Ns builtinsNs mb) (hsup : mg "super" = none) (hbs : mb "super" = some (.type "super"))
    (hf : s.heap.get? f = some of) (hfd : of.data = .func fd) (hp : (fd.params.posonlyargs ++ fd.params.args).head? = some ar) (hv : m ar.arg = some (.ref x)) (hx : s.heap.get? x = some ox) (hxc : ox.cls = .ref C) (hxn : ∀ c, ox.data ≠ .cls c)
    (hcode : s.heap.get? cda = some occ) (hcd : occ.data = .fields vs) (hvs : vs[2]? = some (.str file tf)) (hfile : ((prog.main.file : Str) == file) = true)
    (hcell : s.heap.get? cc = some oc) (hcl : oc.data = .cell (some (.ref D))) (hD : clsIn K D = some cdD) (hsub : mroIn K C (.ref D) = some true)
    (hat : (attr == ("__class__" : Str)) = false) (hks : scope.names.lookup ("super" : Str) = some .globalImplicit) (hkc : scope.names.lookup ("__class__" : Str) = some .free) (hka : scope.names.lookup ar.arg = some .local) (hk : scope.kind = .function)
    (htop : (prog.main.scope.names.lookup ("super" : Str)).isSome = false)
    (hq : ∀ so h', (∀ b o, s.heap.get? b = some o → h'.get? b = some o) → h'.get? so = some (ks_superObj D x C) → Q (.ref so) { s with heap := h' }) :
    _root_.PySem.wpAt (model prog w) A (.func body (ksEnv q scope L f (.ref cda) cc)) (attributeBase (.Call (.Name "super" p0) [] [] p1) attr (ksEnv q scope L f (.ref cda) cc) whole) Q E s := by
  obtain ⟨hh, g, d, t, os⟩ := s
  obtain ⟨oD, hD1, hD2⟩ : ∃ oD, hh.get? D = some oD ∧ oD.data = .cls cdD := by
    unfold clsIn at hD
    split at hD
    · rename_i c d cd' sl ho
      cases hD
      exact ⟨_, X _ _ ho, rfl⟩
    · cases hD
  refine ks_wpAt_super_base (env := ksEnv q scope L f (.ref cda) cc) hks hkc hat rfl hf hfd hp rfl hcode hcd hvs hfile htop ?_
  refine ks_loadName_global hk hks (loadGlobal_builtin (env := ksEnv q scope L f (.ref cda) cc) hg hsup hb hbs ⟨rfl, ?_⟩)
  refine wpAny_loadName_free hk hkc rfl ⟨_, hcell, hcl⟩ ?_
  refine wpAny_loadName_local hk hka hn hv ?_
  refine ks_wpAny_isType_cls hD1 hD2 ⟨rfl, ?_⟩
  refine ks_wpAny_call_super hD1 hD2 hx hxc hxn (looks_mroIn X hsub) (fun h' e k => ?_)
  exact hq _ _ k e
end

section
variable {prog : Program} {w : World} {M : Model} {A : Around} {E : Value → Shared → Prop} {R : Result → Shared → Prop} {h : Heap} {g : Array GenState} {d : Drawn} {t : Nat} {os : OsState}
/-- the built-in __init__ bound to the exception, called: the args are laid anew -/
theorem mw_call {B newId i : String} {bmB : List Value} {u x t0 C : Addr} {dv : Option Addr} {K : Frag} {rest : List Value} {Q : Value → Shared → Prop} (X : K.In h) (FB : ExcBaseFacts B newId i bmB) (q : excInitIn K C bmB newId = true)
    (hu : h.get? u = some (kxs_mw i x)) (he : h.get? x = some (excObj C t0 dv .none)) (hz : rest.length ≤ sizeLine)
    (hq : ∀ h' t1, (∀ b o, b ≠ x → h.get? b = some o → h'.get? b = some o) → h'.get? x = some (excObj C t1 dv .none) → Q .none ⟨h', g, d, t, os⟩) :
    wpAny (model prog w) A (call (.ref u) rest) Q E ⟨h, g, d, t, os⟩ := by
  obtain ⟨nm, N', qn, bs, bm, hdct, sn, sub, ab, col, dd, k0, k1, k2, k3, k5, hC, hT⟩ := excInit_of X q
  refine wpAny_call (codeAny_of_tree ?_)
  show wpAny _ A.in1 (callAny (.ref u) ⟨rest, []⟩) _ _ _
  simp only [callAny]
  refine wpAny_bind (wpAny_load hu ?_)
  simp only [kxs_mw, show (Value.type "method-wrapper" == Value.type "method" || Value.type "method-wrapper" == Value.type "builtin_function_or_method" || Value.type "method-wrapper" == Value.type "method-wrapper") = true by decide, if_true]
  refine KFB.if_so (by decide) ?_
  refine wpAny_bind (check_bound_init FB.toExcCallFacts hC he rfl ?_)
  refine wpAny_bind (wpAny_pure (wpAny_pure ?_))
  refine ⟨plainId_quiet FB.init.plain _, codeAny_builtin FB.initEntry ?_⟩
  exact exc_init_tree (cls := .ref C) (t0 := t0) (dv := dv) (c2 := .none) (c3 := .none) (b4 := .bool false) he hz fun h' k e' _ => hq h' _ k e'

theorem mw_callWith {i : String} {u x : Addr} {s : Shared} {pos : Pos} {env : Env} {e : Expr} {rest : List Expr} {Q : Value → Shared → Prop}
    (h : wpAny M A (spliced (backTo pos (starEach (e :: rest) env))) (fun vs s₁ => KxsAt i u x s₁.heap ∧ wpAny M A (call (.ref u) vs) Q E s₁) E s)
    (he : starEach (e :: rest) env = (false, eval e env) :: starEach rest env := by rfl) (hplain : (backTo pos (starEach rest env)).any (·.1) = false := by rfl) :
    wpAny M A (callWith pos (.ref u) [] (backTo pos (starEach (e :: rest) env)) []) Q E s := by
  rw [he] at h ⊢
  refine kxs_callWith (i := i) (x := x) (by show (false || (backTo pos (starEach rest env)).any (·.1)) = false; rw [hplain]; rfl) ?_
  exact evalArgs_plain h
/-- a first field stored on an exception of our own -/
theorem set_new {B : String} {bmB : List Value} {K : Frag} {name : Str} {v : Value} {x C t0 : Addr} {Q : Unit → Shared → Prop} (SF : StoreFacts B bmB "object.__setattr__" "object") (X : K.In h) (hx : h.get? x = some (excObj C t0 none .none))
    (hp : excOver K C bmB = true) (sa : findIn K (.ref C) "__setattr__" = some (some (.builtin "object.__setattr__"))) (ha : findIn K (.ref C) name = some none) (hh : hasDictIn K C = true)
    (hq : ∀ h' tk' dx, (∀ b o, b ≠ x → h.get? b = some o → h'.get? b = some o) → h.objs.size ≤ dx → dx ≠ x → h'.get? x = some (excObj C t0 (some dx) .none) → h'.Ns1 dx (fun y => if y = name then some v else none) → Q () ⟨h', g, d, tk', os⟩) :
    wpAny (model prog w) A (setAttr (.ref x) name v) Q E ⟨h, g, d, t, os⟩ := by
  have I : InstAt h x (excObj C t0 none .none) C none := ⟨hx, rfl, rfl, trivial⟩
  have hxs : x ≠ h.objs.size := Nat.ne_of_lt (Heap.lt_size hx)
  refine set_plain X I sa ?_
  refine osa_openX (r := none) SF X I hp (by unfold takerIn; rw [ha]; rfl) fun b => ?_
  obtain ⟨cd, hc, hd⟩ := any_some hh
  have hcls : Looks (model prog w) h (classData C) cd := looks_clsIn X hc
  obtain ⟨nm, bs, mro, ns, qn, hdct, sn, sb, ab, col, del⟩ := cd
  dsimp only at hd
  subst hd
  show wpAny _ _ (storeInOwnDict (.ref x) (.ref C) (.str name _) name v b) _ _ _
  unfold storeInOwnDict ownDictForStores
  repeat (first | with_reducible refine PySem.HandSPX.store_in_new ?_ ?_ | with_reducible refine wpAny_loadPart_at hx ?_ | with_reducible refine hcls.at ?_ | wp_step)
  · exact ⟨_, #[], _, (Heap.get?_update_ne _ _ _ _ hxs.symm).trans (Heap.get?_push_at rfl rfl), rfl, fun e he => absurd he (by simp), fun _ => rfl⟩
  · intro h' tk' hn' hs
    have hx₁ : (h.push { cls := .type "dict", data := .dict #[] }).get? x = some (excObj C t0 none .none) := Heap.get?_push_of_some _ hx
    refine hq h' tk' h.objs.size (fun b o hb ho => ?_) (Nat.le_refl _) hxs.symm ?_ hn'
    · exact (hs.2 b (Nat.ne_of_lt (Heap.lt_size ho))).trans ((Heap.get?_update_ne _ _ _ _ hb).trans (Heap.get?_push_of_some _ ho))
    · exact (hs.2 x hxs).trans (Heap.get?_update_self _ hx₁ rfl)
end

/-- the body: super().__init__(m); self.f = f -/
def exB (p0 p1 p2 p3 p4 p5 q1 q2 q3 q4 : Pos) (j : Nat) (m f : Str) : List Stmt :=
  [.Expr (.Call (.Attribute (.Call (.Name "super" p0) [] [] p1) "__init__" p2) [.Constant (.str m) j p3] [] p4) p5, .Assign [.Attribute (.Name "self" q1) f q2] (.Name f q3) q4]
/-- what the written part says of such a class's __init__ -/
structure ExI (prog : Program) (K : Frag) (C fI : Addr) (f : Str) : Prop where
  at_ : findIn K (.ref C) "__init__" = some (some (.ref fI))
  fn : isFn K (.ref fI) = true
  lk : ∃ (oc : Value) (od : Option Addr) (qual : Str) (params : Arguments) (scope : Scope) (doc pm : Value) (an : Option Addr) (cda : Addr) (ct : Value) (osl : Array (Option Value)) (cc : Addr) (ar : Arg)
      (ccl cl : Value) (cdd cld : Option Addr) (vs : Array Value) (ccs csl : Array (Option Value)) (file : Str) (tf : Tok) (p0 p1 p2 p3 p4 p5 q1 q2 q3 q4 : Pos) (j : Nat) (m : Str),
    K.lookup fI = some ⟨oc, od, .func (ksFn "__init__" qual params (exB p0 p1 p2 p3 p4 p5 q1 q2 q3 q4 j m f) scope .none .none doc pm an (.ref cda) ct cc), osl⟩ ∧ codeIn K (.ref cda) qual = true ∧
    K.lookup cda = some ⟨ccl, cdd, .fields vs, ccs⟩ ∧ vs[2]? = some (.str file tf) ∧ ((prog.main.file : Str) == file) = true ∧ K.lookup cc = some ⟨cl, cld, .cell (some (.ref C)), csl⟩ ∧
    (params.posonlyargs ++ params.args).head? = some ar ∧ ar.arg = "self" ∧
    (∀ us : List Value, us.length = 2 → bindArgs (ksFn "__init__" qual params (exB p0 p1 p2 p3 p4 p5 q1 q2 q3 q4 j m f) scope .none .none doc pm an (.ref cda) ct cc) ⟨us, []⟩ = pure ((["self", f] : List Str).zip us)) ∧
    (∀ x ∈ scope.names, x.2 ≠ .cell) ∧ scope.names.lookup ("self" : Str) = some .local ∧ scope.names.lookup f = some .local ∧ scope.names.lookup ("super" : Str) = some .globalImplicit ∧ scope.names.lookup ("__class__" : Str) = some .free ∧
    scope.isCoroutine = false ∧ scope.isGenerator = false ∧ scope.kind = .function ∧
    ∃ pl : Sem Bool, ∀ env : Env, eval (.Call (.Attribute (.Call (.Name "super" p0) [] [] p1) "__init__" p2) [.Constant (.str m) j p3] [] p4) env = (do
      let ov ← attributeBase (.Call (.Name "super" p0) [] [] p1) "__init__" env (eval (.Call (.Name "super" p0) [] [] p1) env)
      standAt p2.atName
      let (f, first) ← holding [ov] (getMethod ov "__init__" pl)
      callWith p4 f first (backTo p4 (starEach [.Constant (.str m) j p3] env)) [])
structure Exs (prog : Program) (K : Frag) (mg : Str → Option Value) (B newId initId : String) (bmB : List Value) (C fI : Addr) (f : Str) : Prop where
  q : excInitIn K C bmB newId = true
  ov : excOver K C bmB = true
  sa : findIn K (.ref C) "__setattr__" = some (some (.builtin "object.__setattr__"))
  no : findIn K (.ref C) f = some none
  hd : hasDictIn K C = true
  subB : subIn K (.ref C) (.type B) = some true
  sup : ks_superIn K C C "__init__" = some (some (.builtin initId))
  mro : mroIn K C (.ref C) = some true
  opq : nsIn K cStatics "thirdparty.any" = some none
  nsup : mg "super" = none
  top : (prog.main.scope.names.lookup ("super" : Str)).isSome = false
  fne : ("self" : Str) ≠ f
  fdb : (f == ("__debug__" : Str)) = false
  init : ExI prog K C fI f
/-- a made exception: e, its own dict d holds the field -/
structure ExMade (h h' : Heap) (e C d : Addr) (f : Str) (v : Value) : Prop where
  keep : ∀ b o, h.get? b = some o → h'.get? b = some o
  new : h.objs.size ≤ e
  obj : ∃ t, h'.get? e = some (excObj C t (some d) .none)
  dbig : h.objs.size ≤ d
  dne : d ≠ e
  ns : h'.Ns1 d (fun y => if y = f then some v else none)
section
variable {prog : Program} {w : World} {A : Around} {E : Value → Shared → Prop} {R : Result → Shared → Prop} {h : Heap} {g : Array GenState} {d : Drawn} {t : Nat} {os : OsState}
variable {K : Frag} {mg : Str → Option Value} {B newId initId : String} {bmB : List Value} {C fI : Addr} {f : Str}
theorem fresh_not_in (X : K.In h) {a : Addr} (ha : h.objs.size ≤ a) : K.lookup a = none := by
  cases e : K.lookup a with
  | none => rfl
  | some o => exact absurd (Nat.lt_of_lt_of_le (Heap.lt_size (X _ _ e)) ha) (Nat.lt_irrefl _)
theorem ex_init (FB : ExcBaseFacts B newId initId bmB) (KF : KxsFacts B initId) (SF : StoreFacts B bmB "object.__setattr__" "object") (T : Exs prog K mg B newId initId bmB C fI f) {x t0 : Addr} {v : Value} {mb : Str → Option Value}
    (X : K.In h) (hlim : h.NoLimit) (hg : h.Ns mainGlobals mg) (hb : h.Ns builtinsNs mb) (hbs : mb "super" = some (.type "super")) (hx : h.get? x = some (excObj C t0 none .none)) (hnx : K.lookup x = none)
    (hroom : A.depth < recursionLimit)
    (hq : ∀ h' tk dx t1, (∀ b o, b ≠ x → h.get? b = some o → h'.get? b = some o) → h.objs.size ≤ dx → dx ≠ x → h'.get? x = some (excObj C t1 (some dx) .none) → h'.Ns1 dx (fun y => if y = f then some v else none) → R (.ok (.ret .none)) ⟨h', g, d, tk, os⟩) :
    codeAny (model prog w) A (.call (.ref fI) ⟨[.ref x, v], []⟩) R ⟨h, g, d, t, os⟩ := by
  obtain ⟨oc, od, qual, params, scope, doc, pm, an, cda, ct, osl, cc, ar, ccl, cl, cdd, cld, vs, ccs, csl, file, tf, p0, p1, p2, p3, p4, p5, q1, q2, q3, q4, j, m, hf, hcd, hcda, hvs, hfile, hcc, hhd, har, hbind, hcell, hsl, hfl, hsup, hcls, hco, hgen, hk, pl, he⟩ := T.init.lk
  obtain ⟨sk, sn, sg, sco, smore⟩ := scope
  dsimp only at hcell hsl hfl hsup hcls hco hgen hk
  subst hk hgen hco
  have nf : ∀ {b : Addr} {o : Obj}, K.lookup b = some o → b ≠ x := fun {b o} e z => by
    rw [z, hnx] at e
    cases e
  refine ks_codeAny_call_defAt (fd := ksFn "__init__" qual params (exB p0 p1 p2 p3 p4 p5 q1 q2 q3 q4 j m f) ⟨.function, sn, false, false, smore⟩ .none .none doc pm an (.ref cda) ct cc) (binds := [("self", .ref x), (f, v)]) hroom (X _ _ hf) rfl hlim (codeRec_of X hcd) rfl
    (BindsTo.of_eq (hbind [.ref x, v] rfl)) hcell (fun y hy => ?_) (fun h₁ hns hk₁ => ?_) rfl rfl rfl
  · rcases List.mem_cons.mp hy with rfl | hy
    · exact hsl
    · rw [List.mem_singleton.mp hy]
      exact hfl
  have lself : (([("self", Value.ref x), (f, v)] : List (Str × Value)).reverse.lookup ("self" : Str)) = some (.ref x) := by
    have z : (("self" : Str) == f) = false := beq_eq_false_iff_ne.mpr T.fne
    show (([(f, v), ("self", Value.ref x)] : List (Str × Value)).lookup ("self" : Str)) = some (.ref x)
    simp [List.lookup, z]
  have lf : (([("self", Value.ref x), (f, v)] : List (Str × Value)).reverse.lookup f) = some v := by
    show (([(f, v), ("self", Value.ref x)] : List (Str × Value)).lookup f) = some v
    simp [List.lookup]
  have X₁ : K.In h₁ := X.keeps hk₁
  have hx₁ := hk₁ _ _ hx
  obtain ⟨cdD, hcD, _⟩ := any_some T.hd
  have hxL : h.objs.size ≠ x := Nat.ne_of_gt (Heap.lt_size hx)
  show _root_.PySem.wpAt _ _ _ (execs (.Expr _ p5 :: _) _) _ _ _
  refine ks_wpAt_execs_cons (ks_wpAt_Expr_any (ks_wpAt_MethodCall (pl := pl) (sup_node (s := ⟨h₁, g, d, _, os⟩) (L := h.objs.size) (D := C) X₁ hns (hg.keeps hk₁) (hb.keeps hk₁) T.nsup hbs (X₁ _ _ hf) rfl hhd (by rw [har]; exact lself) hx₁ rfl (fun c z => by cases z)
    (X₁ _ _ hcda) rfl hvs hfile (X₁ _ _ hcc) rfl hcD T.mro (by decide) hsup hcls (by rw [har]; exact hsl) rfl T.top (fun so h₂ k₂ hso => ?_)) (he _)))
  refine kxs_getMethod KF hso (looks_opaque (X₁.keeps k₂) T.opq) (l₀ := cdD.mro) ?_ rfl (X₁.keeps k₂) ?_ ?_ ?_ (by decide) ?_
  · exact fun A Q E s k q => wpAny_bind ((looks_clsIn (X₁.keeps k₂) hcD) A _ E s k (wpAny_pure q))
  · have z := T.sup
    unfold ks_superIn at z
    rw [hcD] at z
    exact z
  · exact InstAt.type (⟨k₂ _ _ hx₁, rfl, rfl, trivial⟩ : InstAt h₂ x (excObj C t0 none .none) C none) |>.andThen (looks_subIn (X₁.keeps k₂) T.subB)
  · intro z
    have hC : K.lookup C ≠ none := by
      unfold clsIn at hcD
      intro e
      rw [e] at hcD
      cases hcD
    rw [← z] at hC
    exact hC hnx
  have hx₂ := k₂ _ _ hx₁
  have X₂ := X₁.keeps k₂
  have kp : ∀ b o, h₂.get? b = some o → (h₂.push (kxs_mw initId x)).get? b = some o := fun b o e => Heap.get?_push_of_some _ e
  refine mw_callWith (i := initId) (x := x) ?_
  refine Calls.spliced_cons (Calls.Constant_str (pos := p3) (k := j) (Calls.spliced_nil ⟨Heap.get?_push_size _ rfl, ?_⟩))
  refine mw_call (dv := none) (t0 := t0) (X₂.keeps kp) FB T.q (Heap.get?_push_size _ rfl) (kp _ _ hx₂) (by rw [sizeLine_eq]; exact (by decide : 1 ≤ 16777216)) fun h₃ t1 k₃ hx₃ => ?_
  have X₃ : K.In h₃ := fun a o e => k₃ a o (nf e) (kp _ _ (X₂ a o e))
  have keepL : ∀ b o, b ≠ x → h₁.get? b = some o → h₃.get? b = some o := fun b o hb e => k₃ b o hb (kp _ _ (k₂ _ _ e))
  have hns₃ : h₃.Ns h.objs.size (fun y => (([("self", Value.ref x), (f, v)] : List (Str × Value)).reverse.lookup y)) := by
    obtain ⟨o, es, ep, ho, r⟩ := hns
    exact ⟨o, es, ep, keepL _ _ hxL ho, r⟩
  refine ks_wpAt_execs_cons (ks_wpAt_Assign_Attr (wpAt_of_wpAny (wpAny_Name (wpAny_loadName_local rfl hfl hns₃ lf (wpAny_Name (wpAny_loadName_local rfl hsl hns₃ lself ?_) (by decide))) T.fdb)))
  refine set_new SF X₃ hx₃ T.ov T.sa T.no T.hd fun h₄ tk₄ dx k₄ dbig dne hx₄ hn₄ => ?_
  refine wpAt_of_wpAny (wpAny_execs_nil ?_)
  refine hq h₄ tk₄ dx t1 (fun b o hb e => k₄ b o hb (keepL b o hb (hk₁ b o e))) ?_ dne hx₄ hn₄
  have z1 : h.objs.size < h₁.objs.size := hns.lt
  have z2 : h.objs.size < h₃.objs.size := hns₃.lt
  omega
/-- C(v) -/
theorem ex_made (FB : ExcBaseFacts B newId initId bmB) (KF : KxsFacts B initId) (SF : StoreFacts B bmB "object.__setattr__" "object") (T : Exs prog K mg B newId initId bmB C fI f) {v : Value} {mb : Str → Option Value}
    (X : K.In h) (hlim : h.NoLimit) (hg : h.Ns mainGlobals mg) (hb : h.Ns builtinsNs mb) (hbs : mb "super" = some (.type "super")) (hroom : A.depth + 1 < recursionLimit)
    (hq : ∀ h' tk e d0, ExMade h h' e C d0 f v → R (.ok (.ret (.ref e))) ⟨h', g, d, tk, os⟩) :
    codeAny (model prog w) A (.call (.ref C) ⟨[v], []⟩) R ⟨h, g, d, t, os⟩ := by
  obtain ⟨nm, N', qn, bs, bm, hdct, sn, sub, ab, col, dd, k0, k1, k2, k3, k5, hC, hT⟩ := excInit_of X T.q
  obtain ⟨oI, hoI, hcI⟩ : ∃ oI, h.get? fI = some oI ∧ oI.cls = .type "function" := by
    obtain ⟨o, ho, hc⟩ := Option.map_eq_some_iff.mp (show (K.lookup fI).map (·.cls) = some (.type "function") from beq_iff_eq.mp T.init.fn)
    exact ⟨o, X _ _ ho, hc⟩
  have k : ∀ b o, h.get? b = some o → ((h.push (kdv_tup [v])).push (PySem.HandSPX.excO C h.objs.size)).get? b = some o := fun b o e => Heap.get?_push_of_some _ (Heap.get?_push_of_some _ e)
  have hget : ((h.push (kdv_tup [v])).push (PySem.HandSPX.excO C h.objs.size)).get? (h.objs.size + 1) = some (PySem.HandSPX.excO C h.objs.size) := by heap_get
  refine PySem.HandSPX.call_own FB hT hC (looks_findIn X T.init.at_) (fun self => exc_bind hoI hcI self) (by rw [sizeLine_eq]; exact (by decide : 1 ≤ 16777216)) ?_
  refine ex_init FB KF SF T (X.keeps k) (hlim.keeps k) (hg.keeps k) (hb.keeps k) hbs hget (fresh_not_in X (Nat.le_succ _)) ?_ fun h' tk' dx t1 k' dbig dne hx hns => ?_
  · show A.depth + 1 < recursionLimit
    exact hroom
  · have old : ∀ b o, h.get? b = some o → h'.get? b = some o := fun b o e => k' b o (Nat.ne_of_lt (Nat.lt_succ_of_lt (Heap.lt_size e))) (k b o e)
    have z : h.objs.size ≤ dx := by
      rw [Heap.size_push, Heap.size_push] at dbig
      omega
    exact ⟨rfl, hq h' tk' (h.objs.size + 1) dx ⟨old, Nat.le_succ _, ⟨t1, hx⟩, z, dne, hns⟩⟩
end
end GX
/-! part GxB -/
set_option Elab.async false
set_option linter.all false
set_option maxRecDepth 100000
set_option maxHeartbeats 4000000
namespace GX
open PySem PySem.Spec PyProof.Rows L2 L2N
/-! ### try: body, except .. as x: suite, several clauses, one class or two in each -/
theorem flz_keep {B : Heap} {l : List Env} {a : Addr} {Z : Obj → Prop} {h h' : Heap} (k : ∀ b o, h.get? b = some o → h'.get? b = some o) (fl : HandSPX.FlyingZ B l a Z h) : HandSPX.FlyingZ B l a Z h' := by
  obtain ⟨k1, k2, k3, oe, vs, T, oT, ts, e1, e2, e3, e4, e5, e6, e7, e8, e9⟩ := fl
  exact ⟨fun b o e => k _ _ (k1 b o e), k2, Heap.FunFrames.of_keeps (fun b o e _ => ⟨o, k b o e, rfl⟩) k3, oe, vs, T, oT, ts, k _ _ e1, e2, e3, e4, e5, e6, k _ _ e7, e8, e9⟩
inductive TstOk (X : Cx) : Expr → List Value → Prop
  | one {x : Str} {c : Value} {np : Pos} (hc : Names X x c) : TstOk X (.Name x np) [c]
  | two {x1 x2 : Str} {c1 c2 : Value} {p1 p2 tp : Pos} {kk} (h1 : Names X x1 c1) (h2 : Names X x2 c2) : TstOk X (.Tuple [.Name x1 p1, .Name x2 p2] kk tp) [c1, c2]
def exmL (K : PySem.W.Frag) (cls : Value) : List Value → Option Bool
  | [c] => PySem.W.exmOne K cls c
  | cs => PySem.W.exmAny K cls cs
/-- the test of a clause -/
theorem tst_run {X : Cx} {σ : L2.St} {H : Hp} {s : Shared} {t : Expr} {cs : List Value} {a : Addr} {oe : Obj} {cls : Value} {b : Bool} {Q : Bool → Shared → Prop} {E : Value → Shared → Prop} {pn : List (Addr × Obj)}
    (T : TstOk X t cs) (S : Inv (X.suite a pn) [] σ H s) (ha : s.heap.get? a = some oe) (hc : oe.cls = cls) (hb : exmL X.K cls cs = some b)
    (q : ∀ h', (∀ b o, s.heap.get? b = some o → h'.get? b = some o) → Q b { s with heap := h' }) :
    wpAny (model X.prog X.w) (X.A.mark (some (.ref a))) (eval t X.env) (fun c s₁ => wpAny (model X.prog X.w) (X.A.mark (some (.ref a))) (excMatches (.ref a) c) Q E s₁) E s := by
  have LT : PySem.W.Looks (model X.prog X.w) s.heap (typeOf (.ref a)) cls := fun A Q E s k q => wpAny_typeOf_ref (k _ _ ha) (by rw [hc]; exact q)
  have nm : ∀ {x : Str} {c : Value} {np : Pos} {Q : Value → Shared → Prop} {E : Value → Shared → Prop}, Names X x c → Q c s → wpAny (model X.prog X.w) (X.A.mark (some (.ref a))) (eval (.Name x np) X.env) Q E s := fun {x c np Q E} n q => by
    obtain ⟨hg, hdbg, hm | ⟨hm, hv, hnn⟩⟩ := n
    · exact ld_glob (X := X.suite a pn) S hg hm q hdbg
    · exact ld_blt (X := X.suite a pn) S hg hm hv q hnn hdbg
  cases T with
  | one n =>
    exact nm n ((PySem.W.exm_one (M := model X.prog X.w) S.kIn LT hb).here (q s.heap fun _ _ e => e))
  | @two x1 x2 c1 c2 p1 p2 tp kk n1 n2 =>
    have kp : ∀ b o, s.heap.get? b = some o → (s.heap.push { cls := .type "tuple", data := .seq [c1, c2].toArray }).get? b = some o := fun b o e => Heap.get?_push_of_some _ e
    refine wpAny_Tuple_spliced (Calls.spliced_cons (nm n1 (Calls.spliced_cons (nm n2 (Calls.spliced_nil ⟨by rw [sizeLine_eq]; exact (by decide : 2 ≤ 16777216), ?_⟩)))))
    exact (PySem.W.exm_tup2 (M := model X.prog X.w) (S.kIn.keeps kp) (LT.keeps kp) (Heap.get?_push_size _ rfl) hb).here (q _ kp)
inductive HdsA (X : Cx) : List ExceptHandler → List (List Value × Nat × (Addr → Value → Option Addr → TS)) → Prop
  | nil : HdsA X [] []
  | cons {t : Expr} {cs : List Value} {n : Str} {i : Nat} {ts : Addr → Value → Option Addr → TS} {b₀ : Stmt} {suite : List Stmt} {pos' : Pos} {hds : List ExceptHandler} {l : List (List Value × Nat × (Addr → Value → Option Addr → TS))}
      (ht : TstOk X t cs) (hi : X.N[i]? = some n) (hln : X.env.kindOf n = some .local)
      (hsu : ∀ (a : Addr) (oe : Obj) (cls : Value) (d : Option Addr) (pn : List (Addr × Obj)), Zn cls d oe → (∃ vs, oe.data = .fields vs) → PSs (X.suite a ((a, oe) :: pn)) (b₀ :: suite) (ts a cls d)) (r : HdsA X hds l) :
      HdsA X (.ExceptHandler (some t) (some n) (b₀ :: suite) pos' :: hds) ((cs, i, ts) :: l)
def wManyA (K : PySem.W.Frag) (Wout : WX) (D : Ends) : List (List Value × Nat × (Addr → Value → Option Addr → TS)) → WX
  | [] => Wout
  | (cs, i, ts) :: r => fun cls d σ H => ∃ b, exmL K cls cs = some b ∧
      (b = true → ∀ a, H a = none → ts a cls d { nx := fun σ' H' => D.nx (σ'.set i none) H', rt := D.rt, bk := fun σ' H' => D.bk (σ'.set i none) H', ct := fun σ' H' => D.ct (σ'.set i none) H' } (σ.set i (some (.ref a))) H) ∧
      (b = false → wManyA K Wout D r cls d σ H)
section
variable {X : Cx} {body : List Stmt} {h₀ : ExceptHandler} {hds : List ExceptHandler} {l : List (List Value × Nat × (Addr → Value → Option Addr → TS))} {pos : Pos} {tb : WX → TS} {Wout : WX}
theorem ps_tryA (hs : X.stack = X.env :: X.outer) (hf : X.env.frame = some X.env.locals) (hN : X.N.Nodup) (tk : L2N.Takes X Wout)
    (hb : ∀ (W : WX) (pn : List (Addr × Obj)) (xe : Value → Shared → Prop), L2N.Takes (X.tr pn xe) W → PassesOwn (model X.prog X.w) X.A X.env xe → PSs (X.tr pn xe) body (tb W))
    (hh : HdsA X (h₀ :: hds) l) : PS X (.Try body (h₀ :: hds) [] [] pos) (fun D σ H => tb (wManyA X.K Wout D l) D σ H) := by
  refine ⟨fun pins s σ H D I h => ?_⟩
  have ok := I.ok
  have hfr : X.A.frames = some (X.env :: X.outer) := by rw [ok.frames, hs]
  refine wpAny_Try_except ?_
  refine wpAny_mono ((hb (wManyA X.K Wout D l) (X.pn ++ pins) (fun e s₁ => wpAny (model X.prog X.w) X.A (noteFrame e X.env) (fun _ s₂ => wpAny (model X.prog X.w) X.A (setFlight e none) (fun _ s₃ =>
    wpAny (model X.prog X.w) X.A (handleBy e X.env (h₀ :: hds)) (SP X pins D) X.xe s₃) X.xe s₂) X.xe s₁) (fun u s' xx => ?_) PassesOwn.looking).run [] s σ H D (I.toTry _) h) (fun f s1 hsp => ?_) (fun e s1 he => he)
  · -- the catch
    obtain ⟨a, B, sI, pins', σ', H', cls, d, rfl, J', nb, up, sky, na, os, ag, w⟩ := xx
    have J : Inv X pins σ' H' sI := J'.ofTry ok
    have sky' : Sky B (X.env :: X.outer) a (Zn cls d) X.env.locals s'.heap := by rw [← hs]; exact sky
    show wpAny (model X.prog X.w) X.A (noteFrame (.ref a) X.env) _ _ _
    refine Sky.land Zn.steady hfr hf sky' fun h3 fl3 up3 => ?_
    obtain ⟨oe3, vs3, he3, hz3, hd3⟩ := fl3.there
    have notFr : ∀ {h : Heap} {o : Obj} {vs : Array Value}, h.FunFrames B (X.env :: X.outer) → h.get? a = some o → o.data = .fields vs → a ∉ frs (X.env :: X.outer) := fun {h o vs} ff e dd hm => by
      obtain ⟨_, o', e', hnf⟩ := ff.mem hm
      rw [e] at e'; cases e'
      exact hnf _ dd
    have nfr := notFr fl3.2.2.1 he3 hd3
    have nL : a ≠ X.env.locals := fun z => nfr (List.mem_filterMap.mpr ⟨X.env, List.mem_cons_self, by rw [hf, z]⟩)
    have nF : a ∉ X.fs := fun hm => by
      obtain ⟨e, he, q⟩ := List.mem_filterMap.mp hm
      exact nfr (List.mem_filterMap.mpr ⟨e, List.mem_cons_of_mem _ he, q⟩)
    have go : ∀ {hds' : List ExceptHandler} {l' : List (List Value × Nat × (Addr → Value → Option Addr → TS))}, HdsA X hds' l' → ∀ (h3 : Heap), HandSPX.FlyingZ B (X.env :: X.outer) a (Zn cls d) h3 → s'.heap.UpToSlots h3 →
        wManyA X.K Wout D l' cls d σ' H' → wpAny (model X.prog X.w) X.A (handleBy (.ref a) X.env hds') (SP X pins D) X.xe { s' with heap := h3 } := by
      intro hds' l' hk
      induction hk with
      | nil =>
        intro h3 fl3 up3 w
        refine wpAny_handleBy_nil ?_
        obtain ⟨k1, k2, k3, oe, vs, T, oT, ts', he, hz, hd, h1, hr⟩ := id fl3
        unfold PySem.passOn
        refine wpAny_bind (wpAny_field he hd h1 ?_)
        rw [if_neg (show ¬ ((Value.ref T == Value.none) = true) from by simp)]
        have fin : wpAny (model X.prog X.w) X.A (setFlight (.ref a) X.env.frame) (fun _ s4 => wpAny (model X.prog X.w) X.A (throw (.ref a) : Sem Flow) (SP X pins D) X.xe s4) X.xe { s' with heap := h3 } := by
          rw [hf]
          refine HandSPX.setFlight_upZ fl3 fun h4 hh4 up4 => wpAny_throw (tk _ _ ?_)
          exact ⟨a, B, sI, pins, σ', H', cls, d, rfl, J, nb, (up.trans up3).trans up4, .inr (.inr (by rw [hs]; exact hh4)), na, os, ag, w⟩
        first
          | exact wpAny_bind (wpAny_pure (wpAny_bind fin))
          | exact wpAny_bind fin
      | @cons t cs n i ts b₀ suite pos' hds2 l2 ht hi hln hsu r ih =>
        intro h3 fl3 up3 w
        obtain ⟨b, hb1, hyes, hno⟩ := w
        have hloc : Loc X.env.scope n := .inl hln
        have J3 : Inv X pins σ' H' { s' with heap := h3 } := J.landed nb fl3.1 (up.trans up3) os ag
        obtain ⟨oe3, vs3, he3, hz3, hd3⟩ := fl3.there
        have S3 := J3.suite he3 hd3 na nL nF
        refine wpAny_handleBy_cons (codeAny_handlers_test (tst_run (s := { s' with heap := h3 }) ht S3 he3 hz3.1 hb1 fun h3' k3' => ?_)) (by intro q; cases q)
        have fl3' := flz_keep k3' fl3
        have up3' : s'.heap.UpToSlots h3' := up3.trans (Heap.UpToSlots.of_keeps k3')
        cases b with
        | true =>
          refine codeAny_handlers_suite_as ?_
          refine HandSPX.lands_againZ fl3' fun h4 fl4 up4 => ?_
          have J4 : Inv X pins σ' H' { s' with heap := h4 } := J.landed nb fl4.1 ((up.trans up3').trans up4) os ag
          obtain ⟨oe4, vs4, he4, hz4, hd4⟩ := fl4.there
          have S4 := J4.suite he4 hd4 na nL nF
          refine store_ok (X := X.suite a ((a, oe4) :: (X.pn ++ pins))) (v := .ref a) S4 hN hi hloc rfl (fun s5 S5 => ?_) (.inr hln)
          refine wpAny_mono ((hsu a oe4 cls d (X.pn ++ pins) hz4 ⟨_, hd4⟩).run [] s5 _ H' _ S5 (hyes rfl a na)) (fun f s6 hsp => ?_) (fun _ _ z => False.elim z)
          have end_ : ∀ {σ6 : L2.St} {H6 : Hp} {Q : Shared → Prop}, Inv (X.suite a ((a, oe4) :: (X.pn ++ pins))) [] σ6 H6 s6 → (∀ s7, Inv X pins (σ6.set i none) H6 s7 → Q s7) →
              wpAny (model X.prog X.w) X.A (do bindName X.env n .none; unbindBehindTheSuite X.env n pos') (fun _ s7 => Q s7) X.xe s6 := fun {σ6 H6 Q} S6 hq => gone_ok (S6.unsuite ok) hN hi hln hq
          cases f with
          | next =>
            obtain ⟨σ6, H6, S6, q6⟩ := hsp
            exact end_ S6 fun s7 J7 => ⟨_, _, J7, q6⟩
          | brk =>
            obtain ⟨σ6, H6, S6, q6⟩ := hsp
            exact end_ S6 fun s7 J7 => ⟨_, _, J7, q6⟩
          | cont =>
            obtain ⟨σ6, H6, S6, q6⟩ := hsp
            exact end_ S6 fun s7 J7 => ⟨_, _, J7, q6⟩
          | ret u =>
            obtain ⟨v6, σ6, H6, S6, r6, q6⟩ := hsp
            exact end_ S6 fun s7 J7 => ⟨_, _, _, J7, r6, q6⟩
        | false =>
          show wpAny _ X.A (handleBy (.ref a) X.env hds2) _ _ _
          exact ih h3' fl3' up3' (hno rfl)
    exact go hh h3 fl3 up3 w
  · cases f with
    | next =>
      obtain ⟨σ', H', J', q⟩ := hsp
      exact wpAny_execs_nil ⟨σ', H', J'.ofTry ok, q⟩
    | brk =>
      obtain ⟨σ', H', J', q⟩ := hsp
      exact ⟨σ', H', J'.ofTry ok, q⟩
    | cont =>
      obtain ⟨σ', H', J', q⟩ := hsp
      exact ⟨σ', H', J'.ofTry ok, q⟩
    | ret u =>
      obtain ⟨v, σ', H', J', r, q⟩ := hsp
      exact ⟨v, σ', H', J'.ofTry ok, r, q⟩
end
end GX
/-! part GxC -/
set_option Elab.async false
set_option linter.all false
set_option maxRecDepth 100000
set_option maxHeartbeats 4000000
namespace GX
open PySem PySem.Spec PyProof.Rows L2
/-! ### raise C(e), C's __init__ by super() -/
/-- C(e), the exception and its dict new -/
def tMkEx (C : Addr) (f : Str) (ta : TA) : L2.St → Hp → XK → Prop := fun σ H Q => ta σ H fun vs H1 => ∃ v, vs = [v] ∧ ∀ d, H1 d = none → Q (.ref C) (some d) (upd H1 d (.xd [(f, v)]))
/-- what is asked of the class where it is raised -/
structure ExR (K : PySem.W.Frag) (mg : Str → Option Value) (x : Str) (C : Addr) : Prop where
  gC : mg x = some (.ref C)
  kC : PySem.W.keepIn K (.ref C) = true
  exC : PySem.W.subIn K (.ref C) (.type "BaseException") = some true
  tyC : PySem.W.typeIn K (.ref C) = some (.type "type")
theorem relO_one {f : Str} {v : V} {v' : Value} (r : RelV v v') (g : Str) : RelO (List.lookup g [(f, v)]) (if g = f then some v' else none) := relO_put (fs := []) (mA := fun _ => none) r (fun _ => True.intro) g
section
variable {X : Cx} {C fI : Addr} {f x : Str} {B newId initId : String} {bmB : List Value}
theorem pmk_ex {a : Expr} {ta : TA} {p pos : Pos} {k : Nat} (FB : ExcBaseFacts B newId initId bmB) (KF : PySem.W.KxsFacts B initId) (SF : StoreFacts B bmB "object.__setattr__" "object") (T : Exs X.prog X.K X.mg B newId initId bmB C fI f) (R : ExR X.K X.mg x C) (hr : Room k X.A) (ha : PA X [a] ta) (hg : Gl X x)
    (hdb : (x == ("__debug__" : Str)) = false := by decide) (he : starEach (a :: []) X.env = (false, eval a X.env) :: starEach [] X.env := by rfl) (hpl : (backTo pos (starEach [] X.env)).any (·.1) = false := by rfl) :
    L2N.PMk X (.Call (.Name x p) [a] [] pos) (tMkEx C f ta) := by
  intro pins s σ H Q I h
  refine wpAny_Call_Name_kw (ld_glob I hg R.gC ?_ hdb)
  refine PySem.W.callWith_K (h₀ := X.base) I.ok.mod.kin R.kC (thn (ha.run pos pins s σ H _ I h) fun us s1 hh => ?_) he hpl
  obtain ⟨vs, H1, I1, r1, v, ev, q1⟩ := hh
  subst ev
  refine ⟨I1.kIn, ?_⟩
  cases r1 with
  | cons rv rn =>
    rename_i v' us'
    cases rn
    show wpAny _ _ (call (.ref C) [v']) _ _ _
    have hlim := I1.nolimit
    obtain ⟨mb, hb, hbb⟩ := I1.ok.mod.blt
    have hbs : mb "super" = some (.type "super") := (hbb "super" (by decide)).trans (by decide +kernel)
    have hg' := I1.ok.mod.glob.keeps I1.bk
    have hb' := hb.keeps I1.bk
    have kin := I1.kIn
    obtain ⟨hp, g, dr, tk, os⟩ := s1
    refine wpAny_call (ex_made FB KF SF T kin hlim hg' hb' hbs (by have := hr.dp; omega) fun h' tk' e d M => ?_)
    show L2N.MkP X pins σ Q (.ref e) ⟨h', g, dr, tk', os⟩
    obtain ⟨t1, hoe⟩ := M.obj
    obtain ⟨G', g1, g2⟩ := restrict h' fun b => decide (b ≠ e)
    have gk : ∀ b, b ≠ e → G'.get? b = h'.get? b := fun b hb => g1 b (decide_eq_true hb)
    have ge : G'.get? e = none := g2 e (by simp)
    have old : ∀ b o, hp.get? b = some o → G'.get? b = some o := fun b o q => (gk b (Nat.ne_of_lt (Nat.lt_of_lt_of_le (Heap.lt_size q) M.new))).trans (M.keep b o q)
    have ob : ObjOk X.prog X.w (upd H1 d (.xd [(f, v)])) G' d (.xd [(f, v)]) :=
      ⟨_, M.ns.at (fun o q => (gk d M.dne).trans q), fun f' => relO_one rv f'⟩
    have J : Inv X pins σ (upd H1 d (.xd [(f, v)])) ⟨G', g, dr, tk', os⟩ := I1.laid (t' := tk') old M.dbig ob
    refine ⟨e, _, _, ⟨G', g, dr, tk', os⟩, _, .ref C, some d, rfl, J, fun b o q => ?_, ge, hoe, ⟨rfl, rfl, fun vs e => by cases e; rfl⟩, rfl, rfl, ?_, rfl, I1.bare, raises_own R.exC R.tyC, q1 d (I1.hok.fresh M.dbig)⟩
    · by_cases hb : b = e
      · have q' : G'.get? b = some o := q
        rw [hb, ge] at q'; cases q'
      · exact (gk b hb).symm.trans q
    · rw [upd_ne (Ne.symm M.dne)]
      exact I1.hok.fresh M.new
end
/-! ### calls, as one: n values, keywords ks, defaults; what is raised is wished for at the slots -/
abbrev Sk := List V → List V → Hp → VK → XK → Prop
structure CalK (P : Program) (w : World) (K : PySem.W.Frag) (mg : Str → Option Value) (base : Heap) (k : Nat) (f : Addr) (n : Nat) (ks : List Str) (sp : Sk) : Prop where
  ex : ∃ (fd : FuncData) (ps : List Str) (sp0 : Sp) (g : List Value → List Value → List Value) (gV : List V → List V → List V), FnOk P w K mg base (L2N.CX P w) k f fd ps sp0 ∧ KBn K fd ps n ks g gV ∧
    ∀ vs zs H Q E, sp vs zs H Q E → vs.length = n ∧ zs.length = ks.length ∧ sp0 (gV vs zs) H Q E
section
variable {X : Cx} {k j n : Nat} {f C : Addr} {ks : List Str} {sp : Sk} {W : WX} {x m : Str} {p pos apos : Pos} {e o : Expr} {es : List Expr} {kws : List Keyword} {ta : TE} {t tk' : TA} {pins : List (Addr × Obj)} {σ : L2.St} {H : Hp} {s : Shared} {Q : VK}
theorem run_cal {us ws : List Value} {vs zs : List V} (c : CalK X.prog X.w X.K X.mg X.base k f n ks sp) (hr : Room k X.A) (tk : L2N.Takes X W)
    (I : Inv X pins σ H s) (r : Vals vs us) (rz : Vals zs ws) (h : sp vs zs H Q (WE W σ)) : wpAny (model X.prog X.w) X.A (call (.ref f) us (ks.zip ws)) (EP X pins σ Q) X.xe s := by
  obtain ⟨fd, ps, sp0, g, gV, F, hb, hsp⟩ := c.ex
  obtain ⟨l1, l2, h0⟩ := hsp _ _ _ _ _ h
  have r2 := hb.rel r rz
  refine wpAny_call (codeAny_mono (F.run X.A X.stack s H ⟨us, ks.zip ws⟩ (g us ws) (gV vs zs) Q (WE W σ) hr I.env0 (hb.to s us ws I.kIn (r.length.symm.trans l1) (rz.length.symm.trans l2)) r2 h0) fun r s' hq => ?_)
  cases r with
  | error e => exact L2N.passAt tk σ pins H s e s' I hq
  | ok fl =>
    cases fl with
    | ret u => exact I.after hq
    | next => exact False.elim hq
    | brk => exact False.elim hq
    | cont => exact False.elim hq
/-- f(e, ..) -/
def tF (sp : Sk) (W : WX) (t tz : TA) : TE := fun σ H Q => t σ H fun vs H1 => tz σ H1 fun zs H2 => sp vs zs H2 Q (WE W σ)
theorem pe_f (c : CalK X.prog X.w X.K X.mg X.base k f n [] sp) (hm : X.mg x = some (.ref f)) (hk : PySem.W.keepIn X.K (.ref f) = true) (hr : Room j X.A) (hj : k ≤ j) (tk : L2N.Takes X W) (hg : Gl X x) (ha : PA X (e :: es) t)
    (hdb : (x == ("__debug__" : Str)) = false := by decide) (he : starEach (e :: es) X.env = (false, eval e X.env) :: starEach es X.env := by rfl) (hpl : (backTo pos (starEach es X.env)).any (·.1) = false := by rfl) :
    PE X (.Call (.Name x p) (e :: es) [] pos) (tF sp W t tNil) := by
  refine ⟨fun pins s σ H Q I h => ?_⟩
  refine wpAny_Call_Name_kw (ld_glob I hg hm ?_ hdb)
  refine PySem.W.callWith_K (h₀ := X.base) I.ok.mod.kin hk (thn (ha.run pos pins s σ H _ I h) fun us s1 ⟨vs, H1, I1, r, q⟩ => ⟨I1.kIn, ?_⟩) he hpl
  exact run_cal (ws := []) (zs := []) c (hr.mono hj) tk I1 r .nil q
theorem pe_f0 (c : CalK X.prog X.w X.K X.mg X.base k f n [] sp) (hm : X.mg x = some (.ref f)) (hk : PySem.W.keepIn X.K (.ref f) = true) (hr : Room j X.A) (hj : k ≤ j) (tk : L2N.Takes X W) (hg : Gl X x) (hdb : (x == ("__debug__" : Str)) = false := by decide) :
    PE X (.Call (.Name x p) [] [] pos) (tF sp W tNil tNil) := by
  refine ⟨fun pins s σ H Q I h => ?_⟩
  refine wpAny_Call_Name_kw (ld_glob I hg hm ?_ hdb)
  exact PySem.W.callWith_K0 I.kIn hk (run_cal (us := []) (vs := []) (ws := []) (zs := []) c (hr.mono hj) tk I .nil .nil h)
theorem pe_fK (c : CalK X.prog X.w X.K X.mg X.base k f n ks sp) (hm : X.mg x = some (.ref f)) (hk : PySem.W.keepIn X.K (.ref f) = true) (hr : Room j X.A) (hj : k ≤ j) (tk : L2N.Takes X W) (hg : Gl X x)
    (ha : PA X (e :: es) t) (hkw : PK X kws tk') (hall : (backToKw pos (keywordEach kws X.env)).all (·.1.isSome) = true := by rfl) (hks : (backToKw pos (keywordEach kws X.env)).filterMap (·.1) = ks := by rfl)
    (hdb : (x == ("__debug__" : Str)) = false := by decide) (he : starEach (e :: es) X.env = (false, eval e X.env) :: starEach es X.env := by rfl)
    (hpl : ((backTo pos (starEach (e :: es) X.env)).any (·.1) || (backToKw pos (keywordEach kws X.env)).any (·.1.isNone)) = false := by rfl) :
    PE X (.Call (.Name x p) (e :: es) kws pos) (tF sp W t tk') := by
  refine ⟨fun pins s σ H Q I h => ?_⟩
  refine wpAny_Call_Name_kw (ld_glob I hg hm ?_ hdb)
  refine PySem.W.callWith_KW (h₀ := X.base) I.ok.mod.kin hk hall (thn (ha.run pos pins s σ H _ I h) fun us s1 ⟨vs, H1, I1, r, q⟩ => ?_) hpl he
  refine thn (hkw.run pos pins s1 σ H1 _ I1 q) fun ws s2 ⟨zs, H2, I2, rz, q2⟩ => ⟨I2.kIn, ?_⟩
  rw [hks]
  exact run_cal c (hr.mono hj) tk I2 r rz q2
/-- C(e, ..) -/
theorem run_new {us ws : List Value} {vs zs : List V} (M : Mk X.K C f) (c : CalK X.prog X.w X.K X.mg X.base k f (n + 1) ks sp) (hr : Room (k + 1) X.A) (tk : L2N.Takes X W)
    (I : Inv X pins σ H s) (r : Vals vs us) (rz : Vals zs ws)
    (h : ∀ x dx, H x = none → H dx = none → dx ≠ x → sp (.ref x :: vs) zs (upd (upd H dx (.own x)) x (.ins C dx [])) (fun v H2 => v = .non ∧ Q (.ref x) H2) (WE W σ)) :
    wpAny (model X.prog X.w) X.A (call (.ref C) us (ks.zip ws)) (EP X pins σ Q) X.xe s := by
  obtain ⟨fd, ps, sp0, g, gV, F, hb, hsp⟩ := c.ex
  have hq := h (s.heap.objs.size + 1) s.heap.objs.size (I.hok.fresh (Nat.le_succ _)) (I.hok.fresh (Nat.le_refl _)) (Nat.ne_of_lt (Nat.lt_succ_self _))
  obtain ⟨l1, l2, h0⟩ := hsp _ _ _ _ _ hq
  have I2 := Inv.made (C := C) I
  have r1 : Vals (V.ref (s.heap.objs.size + 1) :: vs) (Value.ref (s.heap.objs.size + 1) :: us) := .cons rfl r
  have r2 := hb.rel r1 rz
  have e1 : (Value.ref (s.heap.objs.size + 1) :: us).length = n + 1 := r1.length.symm.trans l1
  have e2 : ws.length = ks.length := rz.length.symm.trans l2
  refine wpAny_call (make_map (f := f) I.kIn M.makes M.init (beq_iff_eq.mp M.fn) (codeAny_mono (F.run _ X.stack _ _ ⟨Value.ref (s.heap.objs.size + 1) :: us, ks.zip ws⟩ (g (Value.ref (s.heap.objs.size + 1) :: us) ws) _ _ (WE W σ) (hr.make C us (ks.zip ws))
    (I2.env0.make C us (ks.zip ws)) (hb.to _ (Value.ref (s.heap.objs.size + 1) :: us) ws I2.kIn e1 e2) r2 h0) fun r s' hq' => ?_))
  cases r with
  | error e => exact L2N.passAt tk σ pins _ _ e s' I2 hq'
  | ok fl =>
    cases fl with
    | ret u =>
      obtain ⟨v, H', I3, rv, ev, q3⟩ := I2.after hq'
      subst ev
      exact ⟨rv, ⟨V.ref (s.heap.objs.size + 1), H', I3, rfl, q3⟩⟩
    | next => exact False.elim hq'
    | brk => exact False.elim hq'
    | cont => exact False.elim hq'
def tNew (C : Addr) (sp : Sk) (W : WX) (t tz : TA) : TE := fun σ H Q => t σ H fun vs H1 => tz σ H1 fun zs H2 => ∀ x dx, H2 x = none → H2 dx = none → dx ≠ x →
  sp (.ref x :: vs) zs (upd (upd H2 dx (.own x)) x (.ins C dx [])) (fun v H3 => v = .non ∧ Q (.ref x) H3) (WE W σ)
theorem pe_new (M : Mk X.K C f) (c : CalK X.prog X.w X.K X.mg X.base k f (n + 1) [] sp) (hm : X.mg x = some (.ref C)) (hr : Room j X.A) (hj : k + 1 ≤ j) (tk : L2N.Takes X W) (hg : Gl X x) (ha : PA X (e :: es) t)
    (hdb : (x == ("__debug__" : Str)) = false := by decide) (he : starEach (e :: es) X.env = (false, eval e X.env) :: starEach es X.env := by rfl) (hpl : (backTo pos (starEach es X.env)).any (·.1) = false := by rfl) :
    PE X (.Call (.Name x p) (e :: es) [] pos) (tNew C sp W t tNil) := by
  refine ⟨fun pins s σ H Q I h => ?_⟩
  refine wpAny_Call_Name_kw (ld_glob I hg hm ?_ hdb)
  refine PySem.W.callWith_K (h₀ := X.base) I.ok.mod.kin M.kp (thn (ha.run pos pins s σ H _ I h) fun us s1 ⟨vs, H1, I1, r, q⟩ => ⟨I1.kIn, ?_⟩) he hpl
  exact run_new (ws := []) (zs := []) M c (hr.mono hj) tk I1 r .nil q
theorem pe_newK (M : Mk X.K C f) (c : CalK X.prog X.w X.K X.mg X.base k f (n + 1) ks sp) (hm : X.mg x = some (.ref C)) (hr : Room j X.A) (hj : k + 1 ≤ j) (tk : L2N.Takes X W) (hg : Gl X x)
    (ha : PA X (e :: es) t) (hkw : PK X kws tk') (hall : (backToKw pos (keywordEach kws X.env)).all (·.1.isSome) = true := by rfl) (hks : (backToKw pos (keywordEach kws X.env)).filterMap (·.1) = ks := by rfl)
    (hdb : (x == ("__debug__" : Str)) = false := by decide) (he : starEach (e :: es) X.env = (false, eval e X.env) :: starEach es X.env := by rfl)
    (hpl : ((backTo pos (starEach (e :: es) X.env)).any (·.1) || (backToKw pos (keywordEach kws X.env)).any (·.1.isNone)) = false := by rfl) :
    PE X (.Call (.Name x p) (e :: es) kws pos) (tNew C sp W t tk') := by
  refine ⟨fun pins s σ H Q I h => ?_⟩
  refine wpAny_Call_Name_kw (ld_glob I hg hm ?_ hdb)
  refine PySem.W.callWith_KW (h₀ := X.base) I.ok.mod.kin M.kp hall (thn (ha.run pos pins s σ H _ I h) fun us s1 ⟨vs, H1, I1, r, q⟩ => ?_) hpl he
  refine thn (hkw.run pos pins s1 σ H1 _ I1 q) fun ws s2 ⟨zs, H2, I2, rz, q2⟩ => ⟨I2.kIn, ?_⟩
  rw [hks]
  exact run_new M c (hr.mono hj) tk I2 r rz q2
/-- o.m(e, ..), o an instance of the class at C -/
def tM (C : Addr) (m : Str) (sp : Sk) (W : WX) (ta : TE) (t : TA) : TE := fun σ H Q => ta σ H fun x H1 => ∃ a dx fs, x = .ref a ∧ H1 a = some (.ins C dx fs) ∧ fs.lookup m = none ∧ t σ H1 fun vs H2 => sp (x :: vs) [] H2 Q (WE W σ)
theorem pe_m {pl : Sem Bool} (hc : Cls X.K C) (hm : Meth X.K C m f) (c : CalK X.prog X.w X.K X.mg X.base k f n [] sp) (hr : Room j X.A) (hj : k ≤ j) (tk : L2N.Takes X W) (he : PE X o ta) (ha : PA X (e :: es) t)
    (hst : starEach (e :: es) X.env = (false, eval e X.env) :: starEach es X.env := by rfl) (hpl : (backTo pos (starEach es X.env)).any (·.1) = false := by rfl)
    (ht : eval (.Call (.Attribute o m apos) (e :: es) [] pos) X.env = (do
      let ov ← eval o X.env
      standAt apos.atName
      let (f, first) ← holding [ov] (getMethod ov m pl)
      callWith pos f first (backTo pos (starEach (e :: es) X.env)) (backToKw pos (keywordEach [] X.env))) := by rfl) :
    PE X (.Call (.Attribute o m apos) (e :: es) [] pos) (tM C m sp W ta t) := by
  refine ⟨fun pins s σ H Q I h => ?_⟩
  refine PySem.W.methodCall_KW (pl := pl) (thn (he.run pins s σ H _ I h) fun u s1 ⟨x, H1, I1, rx, a, dx, fs, ex, ea, l, q⟩ => ?_) ht
  subst ex
  obtain rfl : u = Value.ref a := rx
  refine getmeth_ok I1 ea hc hm l ?_
  refine PySem.W.callWith_K (first := [.ref a]) (h₀ := X.base) I.ok.mod.kin hm.kp (thn (ha.run pos pins s1 σ H1 _ I1 q) fun us s2 ⟨vs, H2, I2, r, q2⟩ => ⟨I2.kIn, ?_⟩) hst hpl
  exact run_cal (us := .ref a :: us) (vs := .ref a :: vs) (ws := []) (zs := []) c (hr.mono hj) tk I2 (.cons rfl r) .nil q2
theorem pe_m0 {pl : Sem Bool} (hc : Cls X.K C) (hm : Meth X.K C m f) (c : CalK X.prog X.w X.K X.mg X.base k f n [] sp) (hr : Room j X.A) (hj : k ≤ j) (tk : L2N.Takes X W) (he : PE X o ta)
    (ht : eval (.Call (.Attribute o m apos) [] [] pos) X.env = (do
      let ov ← eval o X.env
      standAt apos.atName
      let (f, first) ← holding [ov] (getMethod ov m pl)
      callWith pos f first (backTo pos (starEach [] X.env)) (backToKw pos (keywordEach [] X.env))) := by rfl) :
    PE X (.Call (.Attribute o m apos) [] [] pos) (tM C m sp W ta tNil) := by
  refine ⟨fun pins s σ H Q I h => ?_⟩
  refine PySem.W.methodCall_KW (pl := pl) (thn (he.run pins s σ H _ I h) fun u s1 ⟨x, H1, I1, rx, a, dx, fs, ex, ea, l, q⟩ => ?_) ht
  subst ex
  obtain rfl : u = Value.ref a := rx
  refine getmeth_ok I1 ea hc hm l ?_
  exact PySem.W.callWith_K0 (first := [.ref a]) I1.kIn hm.kp (run_cal (us := [.ref a]) (vs := [.ref a]) (ws := []) (zs := []) c (hr.mono hj) tk I1 (.cons rfl .nil) .nil q)
/-- a staticmethod of the class at C, read off the class -/
structure Stat (K : PySem.W.Frag) (C : Addr) (m : Str) (f : Addr) : Prop where
  rd : PySem.W.readsIn K C (.type "type") = true
  ga : PySem.W.specialIn K (.ref C) "__getattribute__" = some (some (.builtin "type.__getattribute__"))
  sm : ∃ (p : Addr) (rest : List Value), PySem.W.findCls K (.ref C) (.type "type") m = some (.get (.builtin "staticmethod.__get__") (.ref p) .none (.ref C)) ∧ PySem.W.recIn K p "staticmethod" = some (.ref f :: rest)
  kp : PySem.W.keepIn K (.ref f) = true
def tS (C : Addr) (sp : Sk) (W : WX) (ta : TE) (t : TA) : TE := fun σ H Q => ta σ H fun x H1 => x = .ref C ∧ t σ H1 fun vs H2 => sp vs [] H2 Q (WE W σ)
theorem pe_st {pl : Sem Bool} (hs : Stat X.K C m f) (c : CalK X.prog X.w X.K X.mg X.base k f n [] sp) (hr : Room j X.A) (hj : k ≤ j) (tk : L2N.Takes X W) (he : PE X o ta) (ha : PA X (e :: es) t)
    (hst : starEach (e :: es) X.env = (false, eval e X.env) :: starEach es X.env := by rfl) (hpl : (backTo pos (starEach es X.env)).any (·.1) = false := by rfl)
    (ht : eval (.Call (.Attribute o m apos) (e :: es) [] pos) X.env = (do
      let ov ← eval o X.env
      standAt apos.atName
      let (f, first) ← holding [ov] (getMethod ov m pl)
      callWith pos f first (backTo pos (starEach (e :: es) X.env)) (backToKw pos (keywordEach [] X.env))) := by rfl) :
    PE X (.Call (.Attribute o m apos) (e :: es) [] pos) (tS C sp W ta t) := by
  refine ⟨fun pins s σ H Q I h => ?_⟩
  refine PySem.W.methodCall_KW (pl := pl) (thn (he.run pins s σ H _ I h) fun u s1 ⟨x, H1, I1, rx, ex, q⟩ => ?_) ht
  subst ex
  obtain rfl : u = Value.ref C := rx
  obtain ⟨p, rest, e1, e2⟩ := hs.sm
  refine PySem.W.method_cls I1.kIn hs.ga (PySem.W.cls_bind I1.kIn hs.rd e1 (wpAny_call (PySem.W.sm_get (s := { s1 with toks := s1.toks + 1 }) I1.kIn e2 (PySem.W.handed_on rfl ?_))))
  refine PySem.W.callWith_K (h₀ := X.base) I.ok.mod.kin hs.kp (thn (ha.run pos pins _ σ H1 _ (I1.tok _) q) fun us s2 ⟨vs, H2, I2, r, q2⟩ => ⟨I2.kIn, ?_⟩) hst hpl
  exact run_cal (us := us) (vs := vs) (ws := []) (zs := []) c (hr.mono hj) tk I2 r .nil q2
end
end GX
/-! part GxD -/
set_option Elab.async false
set_option linter.all false
set_option maxRecDepth 100000
set_option maxHeartbeats 4000000
namespace GX
open PySem PySem.Spec PyProof.Rows L2 L2H
/-! ### a def that is called in an except suite with the exception itself -/
abbrev SpE := Addr → Value → Option Addr → Sp
structure FnE (P : Program) (w : World) (K : PySem.W.Frag) (mg : Str → Option Value) (base : Heap) (k : Nat) (f : Addr) (fd : FuncData) (ps : List Str) (sp : SpE) : Prop where
  len : ∀ a cls d vs H Q E, sp a cls d vs H Q E → vs.length = ps.length
  run : ∀ (A : Around) (outer : List Env) (s : Shared) (H : Hp) (args : Args) (us : List Value) (vs : List V) (Q : VK) (E : XK) (p : Addr × Obj) (cls : Value) (d : Option Addr), RoomH k A → Hot1 A p → L2N.Zn cls d p.2 → PinOk outer H s p → Env0 P w K mg base A outer s H →
    BindsTo s fd args (ps.zip us) → Vals vs us → sp p.1 cls d vs H Q E → codeAny (model P w) A (.call (.ref f) args) (CR (L2N.CX P w) outer P w H s Q E) s
theorem fn_ofE {P : Program} {w : World} {K : PySem.W.Frag} {mg : Str → Option Value} {base : Heap} {k : Nat} {f : Addr} {name qual : Str} {params : Arguments} {body : List Stmt} {scope : Scope} {dV kV doc pm cdv ct oc : Value} {an od : Option Addr}
    {osl : Array (Option Value)} {N ps : List Str} {sp : SpE} (lk : K.lookup f = some ⟨oc, od, .func (PySem.W.fnOf name qual params body scope dV kV doc pm an cdv ct), osl⟩) (hcd : PySem.W.codeIn K cdv qual = true) (S : FnScope N ps scope)
    (len : ∀ a cls d vs H Q E, sp a cls d vs H Q E → vs.length = ps.length)
    (hbody : ∀ (A : Around) (outer : List Env) (s : Shared) (H : Hp) (vs : List V) (Q : VK) (E : XK) (p : Addr × Obj) (cls : Value) (d : Option Addr), Hot1 A p → L2N.Zn cls d p.2 → RoomH k (A.deeper (envOfC qual scope s.heap.objs.size f cdv)) → sp p.1 cls d vs H Q E →
      ∃ t, PSs (cxH (L2N.CX P w) P w K mg base N qual scope f cdv A outer s H E p) body t ∧ t { nx := fun _ H' => Q .non H', rt := Q } (L2.start N vs) H) :
    FnE P w K mg base (k + 1) f (PySem.W.fnOf name qual params body scope dV kV doc pm an cdv ct) ps sp := by
  refine ⟨len, fun A outer s H args us vs Q E p cls d hr hot hz hpin e0 hb r hsp => ?_⟩
  have hl := len _ _ _ _ _ _ _ hsp
  have KX : K.In s.heap := e0.mod.kin.keeps fun b o e => (e0.bs b o e).1
  have lim : s.heap.NoLimit := e0.mod.nolimit.keeps fun b o e => (e0.bs b o e).1
  have hkind : ∀ y ∈ ps.zip us, scope.names.lookup y.1 = some .local ∨ (scope.names.lookup y.1 = some .cell ∧ ((cellsFrom (s.heap.objs.size + 1) scope.names []).lookup y.1).isSome = true) := fun ⟨n, v⟩ hy => by
    rcases S.par n (List.of_mem_zip hy).1 with q | q
    · exact .inl q
    · exact .inr ⟨q, PySem.W.cellsFrom_some _ _ _ (.inl q)⟩
  refine codeAny_call_function hr.depth (KX _ _ lk) rfl S.co S.gen rfl (PySem.W.codeRec_of KX hcd) (hb _ _ _ _ ?_)
  refine wpAny_newFunctionEnv_cells S.kind hkind fun env he s1 x => ?_
  subst he
  refine ⟨lim.keeps x.toInCall.keep, codeAny_func ?_⟩
  obtain ⟨t, ht, hq⟩ := hbody A outer s H vs Q E p cls d hot hz (hr.deeper _) hsp
  have I : Inv (cxH (L2N.CX P w) P w K mg base N qual scope f cdv A outer s H E p) [] (L2.start N vs) H s1 := inv_startH S hpin e0 hl r x
  refine wpAny_mono (ht.run [] s1 (L2.start N vs) H _ I hq) (fun fl s' hs => ?_) fun e s' hs => hs
  have fin : ∀ {σ' : L2.St} {H' : Hp} {v : V} {u : Value}, Inv (cxH (L2N.CX P w) P w K mg base N qual scope f cdv A outer s H E p) [] σ' H' s' → RelV v u → Q v H' → CE outer P w H s Q u s' :=
    fun {σ' H' v u} J rv q => ⟨v, H', J.os, J.bare, J.base, J.hok, rv, q⟩
  cases fl with
  | ret u =>
    obtain ⟨v, σ', H', J, rv, q⟩ := hs
    exact fin J rv q
  | next =>
    obtain ⟨σ', H', J, q⟩ := hs
    exact fin (v := V.non) (u := Value.none) J rfl q
  | brk =>
    obtain ⟨_, _, _, q⟩ := hs
    exact False.elim q
  | cont =>
    obtain ⟨_, _, _, q⟩ := hs
    exact False.elim q
theorem takes0N {X : Cx} : L2N.Takes X (fun _ _ _ _ => False) := fun _ _ x => by
  obtain ⟨_, _, _, _, _, _, _, _, _, _, _, _, _, _, _, _, z⟩ := x
  exact z.elim
section
variable {X : Cx} {k j : Nat} {f : Addr} {fd : FuncData} {ps : List Str} {sp : SpE} {a : Addr} {oe : Obj} {cls : Value} {d : Option Addr} {pn : List (Addr × Obj)} {x : Str} {q pos : Pos} {e : Expr} {es : List Expr} {t : TA}
theorem hot1_suite {A : Around} (hz : L2N.Zn cls d oe) (hf : ∃ vs, oe.data = .fields vs) : Hot1 (A.mark (some (.ref a))) (a, oe) := by
  obtain ⟨vs, hd⟩ := hf
  exact ⟨rfl, vs, hd, hz.2.2 vs hd⟩
theorem run_fnE {pins : List (Addr × Obj)} {σ : L2.St} {H : Hp} {s : Shared} {Q : VK} {us : List Value} {vs : List V} (F : FnE X.prog X.w X.K X.mg X.base k f fd ps sp) (hr : RoomH k X.A) (hb : Binds X.K fd ps [])
    (hot : Hot1 X.A (a, oe)) (hz : L2N.Zn cls d oe) (hp : (a, oe) ∈ X.pn) (I : Inv X pins σ H s) (r : Vals vs us) (h : sp a cls d vs H Q (fun _ _ _ => False)) : wpAny (model X.prog X.w) X.A (call (.ref f) us) (EP X pins σ Q) X.xe s := by
  have hl : us.length = ps.length := by rw [← r.length]; exact F.len _ _ _ _ _ _ _ h
  have b := hb s us I.kIn (by rw [List.append_nil]; exact hl)
  rw [List.append_nil] at b
  have P1 := I.pin (a, oe) (List.mem_append_left _ hp)
  have hpin : PinOk X.stack H s (a, oe) := ⟨P1.1, P1.2.1, fun hm => (List.mem_cons.mp (I.stkSub a hm)).elim P1.2.2.1 P1.2.2.2.1, P1.2.2.2.2⟩
  refine wpAny_call (codeAny_mono (F.run X.A X.stack s H ⟨us, []⟩ us vs Q _ (a, oe) cls d hr hot hz hpin I.env0 b r h) fun r s' hq => ?_)
  cases r with
  | error e =>
    obtain ⟨_, _, _, _, _, _, _, _, _, _, _, _, z⟩ := hq
    exact z.elim
  | ok fl =>
    cases fl with
    | ret u => exact I.after hq
    | next => exact False.elim hq
    | brk => exact False.elim hq
    | cont => exact False.elim hq
/-- f(e, ..) in the suite, f's promise told of the exception: its address, class, dict -/
def tCallE (sp : SpE) (a : Addr) (cls : Value) (d : Option Addr) (t : TA) : TE := fun σ H Q => t σ H fun vs H1 => sp a cls d vs H1 Q (fun _ _ _ => False)
theorem pe_callE (F : FnE X.prog X.w X.K X.mg X.base k f fd ps sp) (hr : RoomH k (X.A.mark (some (.ref a)))) (hz : L2N.Zn cls d oe) (hf : ∃ vs, oe.data = .fields vs) (hg : Gl X x) (hm : X.mg x = some (.ref f)) (hk : PySem.W.keepIn X.K (.ref f) = true) (hb : Binds X.K fd ps [])
    (ha : PA (X.suite a ((a, oe) :: pn)) (e :: es) t) (hdb : (x == ("__debug__" : Str)) = false := by decide) (he : starEach (e :: es) X.env = (false, eval e X.env) :: starEach es X.env := by rfl) (hpl : (backTo pos (starEach es X.env)).any (·.1) = false := by rfl) :
    PE (X.suite a ((a, oe) :: pn)) (.Call (.Name x q) (e :: es) [] pos) (tCallE sp a cls d t) := by
  refine ⟨fun pins s σ H Q I h => ?_⟩
  refine wpAny_Call_Name_kw (ld_glob (X := X.suite a ((a, oe) :: pn)) I hg hm ?_ hdb)
  refine PySem.W.callWith_K (h₀ := X.base) I.ok.mod.kin hk (thn (ha.run pos pins s σ H _ I h) fun us s1 ⟨vs, H1, I1, r, q⟩ => ⟨I1.kIn, ?_⟩) he hpl
  exact run_fnE (X := X.suite a ((a, oe) :: pn)) F hr hb (hot1_suite hz hf) hz List.mem_cons_self I1 r q
end
/-! ### isinstance(e, c), isinstance(e, (c1, c2, ..)), e.f: e an exception that is pinned -/
structure ExK (K : PySem.W.Frag) (D : Addr) : Prop where
  cl : (PySem.W.clsIn K D).isSome = true
  ga : PySem.W.findIn K (.ref D) "__getattribute__" = some (some (.builtin "BaseException.__getattribute__"))
  gg : PySem.W.findIn K (.ref D) "__getattr__" = some none
  ex : PySem.W.subIn K (.ref D) (.type "BaseException") = some true
  hd : PySem.W.hasDictIn K D = true
  ha : PySem.W.findIn K (.ref D) "__class__" = some (some (.builtin "object.__class__"))
  hn : PySem.W.specialIn K (.builtin "object.__class__") "__get__" = some (some (.builtin "getset_descriptor.__get__"))
  ht : PySem.W.takesIn K (.builtin "object.__class__") = some true
  hm : PySem.W.mroIn K D (.type "object") = some true
section
variable {X : Cx} {p : Addr × Obj} {D : Addr} {d : Option Addr} {pins : List (Addr × Obj)} {σ : L2.St} {H : Hp} {s : Shared}
/-- its dict stands, or there is none -/
def XdAt (H : Hp) (d : Option Addr) : Prop := d = none ∨ ∃ dd fs, d = some dd ∧ H dd = some (.xd fs)
theorem pin_inst (hz : L2N.Zn (.ref D) d p.2) (hf : ∃ vs, p.2.data = .fields vs) (hp : p ∈ X.pn) (I : Inv X pins σ H s) (hd : XdAt H d) : ∃ od, PySem.W.InstAt s.heap p.1 p.2 D od := by
  obtain ⟨hget, _⟩ := I.pin p (List.mem_append_left _ hp)
  obtain ⟨vs, hv⟩ := hf
  rcases hd with rfl | ⟨dd, fs, rfl, hx⟩
  · refine ⟨none, hget, hz.1, by unfold PySem.W.notCls; rw [hv] <;> rfl, ?_⟩
    rw [hz.2.1]
    trivial
  · have hx' : ObjOk X.prog X.w H s.heap dd (.xd fs) := I.hok dd _ hx
    obtain ⟨mA, hns, hr⟩ := hx'
    obtain ⟨od, ho, hl⟩ := lookIn_ns hns
    exact ⟨some od, hget, hz.1, by unfold PySem.W.notCls; rw [hv] <;> rfl, by rw [hz.2.1]; exact ho⟩
def rIsP (K : PySem.W.Frag) (D a : Addr) (d : Option Addr) : List V → Hp → VK → Prop := fun xs H Q => XdAt H d ∧
  ((∃ (c : V) (u : Value) (b : Bool), xs = [.ref a, c] ∧ ClsV c u ∧ PySem.W.kitOne K (.ref D) u = some b ∧ Q (.bl b) H) ∨
   (∃ (tp : Addr) (cs : List V) (us : List Value) (b : Bool), xs = [.ref a, .ref tp] ∧ H tp = some (.tup cs) ∧ Paired ClsV cs us ∧ PySem.W.kitAny K (.ref D) us = some b ∧ Q (.bl b) H))
theorem call_isP (T : ExK X.K D) (hz : L2N.Zn (.ref D) d p.2) (hf : ∃ vs, p.2.data = .fields vs) (hp : p ∈ X.pn) : CallR X (.builtin "isinstance") (rIsP X.K D p.1 d) := by
  intro pins s σ H xs us Q I r h
  obtain ⟨hd, h⟩ := h
  obtain ⟨od, J⟩ := pin_inst hz hf hp I hd
  rcases h with ⟨c, u, b, rfl, k, e, q⟩ | ⟨tp, cs, ws, b, rfl, hT, k, e, q⟩
  · obtain ⟨u1, u2, rfl, r1, r2⟩ := vals2 r
    have e2 := k.eq r2
    subst e2
    cases (show u1 = Value.ref p.1 from r1)
    exact PySem.W.kia_one (PySem.W.kitx_exc T.cl T.ga T.gg T.ex T.ha T.hn T.ht T.hm) I.kIn J e (fun z => nomatch z) fun tk => ⟨.bl b, H, I.tok tk, rfl, q⟩
  · obtain ⟨u1, u2, rfl, r1, r2⟩ := vals2 r
    cases (show u1 = Value.ref p.1 from r1)
    cases (show u2 = Value.ref tp from r2)
    obtain ⟨_, its, rv, o, h1, h2, n, h3⟩ := (show ObjOk X.prog X.w H s.heap tp (.tup cs) from I.hok tp _ hT)
    have e3 := ClsV.all k rv
    subst e3
    obtain ⟨oc, od', dt, sl⟩ := o
    simp only at h2 h3
    subst h2 h3
    exact PySem.W.kia_tup (PySem.W.kitx_exc T.cl T.ga T.gg T.ex T.ha T.hn T.ht T.hm) I.kIn J h1 e (fun z => nomatch z) fun tk => ⟨.bl b, H, I.tok tk, rfl, q⟩
/-- e.f -/
def tXp (a : Addr) (d : Option Addr) (f : Str) (te : TE) : TE := fun σ H Q => te σ H fun x H1 => x = .ref a ∧ ∃ (dd : Addr) (fs : List (Str × V)) (v : V), d = some dd ∧ H1 dd = some (.xd fs) ∧ fs.lookup f = some v ∧ Q v H1
theorem pe_xp {e : Expr} {te : TE} {pos : Pos} {n : Str} (T : ExK X.K D) (hno : PySem.W.findIn X.K (.ref D) n = some none) (hz : L2N.Zn (.ref D) d p.2) (hf : ∃ vs, p.2.data = .fields vs) (hp : p ∈ X.pn) (he : PE X e te)
    (hb : attributeBase e n X.env (eval e X.env) = eval e X.env := by rfl) : PE X (.Attribute e n pos) (tXp p.1 d n te) := by
  refine ⟨fun pins s σ H Q I h => ?_⟩
  refine attr_of hb (thn (he.run pins s σ H _ I h) fun u s1 hh => ?_)
  obtain ⟨x, H1, I1, rx, ex, dd, fs, v, ed, ea, l, q⟩ := hh
  subst ex
  obtain rfl : u = Value.ref p.1 := rx
  subst ed
  obtain ⟨ha, _⟩ := I1.pin p (List.mem_append_left _ hp)
  obtain ⟨vs, hd⟩ := hf
  have hx : ObjOk X.prog X.w H1 s1.heap dd (.xd fs) := I1.hok dd _ ea
  obtain ⟨mA, hns, hr⟩ := hx
  obtain ⟨od, ho, hl⟩ := lookIn_ns hns
  obtain ⟨u, hu, ru⟩ := RelO.some_of (v := v) (o := mA n) (by rw [← l]; exact hr n)
  have J : PySem.W.InstAt s1.heap p.1 p.2 D (some od) := ⟨ha, hz.1, by unfold PySem.W.notCls; rw [hd] <;> rfl, by rw [hz.2.1]; exact ho⟩
  exact HandSPX.exc_get I1.kIn J T.ga T.gg T.ex (PySem.W.findObj_own T.hd hno rfl (by rw [hl, hu])) (handed_of ru) ⟨v, H1, I1.tok _, ru, q⟩
end
/-! ### == by an own __eq__ -/
section
variable {X : Cx} {k j n : Nat} {f C : Addr} {sp : Sk}
def rEqOwn (K : PySem.W.Frag) (C : Addr) (sp : Sk) : R2 := fun x y H Q => ∃ (a dx : Addr) (fs : List (Str × V)) (t : Value), x = .ref a ∧ H a = some (.ins C dx fs) ∧ TyX K H y t ∧ PySem.W.notFirst K C t = true ∧
  sp [x, y] [] H (fun v H' => ∃ b, v = .bl b ∧ Q (.bl b) H') (fun _ _ _ => False)
theorem op_eqOwn (hc : Cls X.K C) (hm : Meth X.K C "__eq__" f) (c : CalK X.prog X.w X.K X.mg X.base k f n [] sp) (hr : Room j X.A) (hj : k ≤ j) : OpR X (compareOp .Eq) (rEqOwn X.K C sp) := by
  intro pins s σ H x y u v Q I rx ry h
  obtain ⟨a, dx, fs, t, rfl, ea, ty, hn, q⟩ := h
  obtain rfl : u = Value.ref a := rx
  obtain ⟨mA, O, _⟩ := ins_get I.hok ea
  obtain ⟨od, J, _⟩ := O.look
  obtain ⟨P, Z, p, _⟩ := kit_of I ry ty
  obtain ⟨m, fr⟩ := I.fr
  refine PySem.W.cmp_ofEq (PySem.W.cmp_K hr.units0 fr I.ok.mod.kin J (Z.ty _ _ I.kIn p) hn hm.at_ hm.fn ?_)
  refine wpAny_mono (run_cal (us := [.ref a, v]) (vs := [.ref a, y]) (ws := []) (zs := []) c (hr.mono hj) takes0N I (.cons rfl (.cons ry .nil)) .nil q) (fun r s' hh => ?_) fun _ _ z => z
  obtain ⟨w, H', I', rw', b, rfl, q'⟩ := hh
  obtain rfl : r = Value.bool b := rw'
  exact ⟨.bl b, H', I', rfl, q'⟩
end
end GX
/-! part GxE -/
set_option Elab.async false
set_option linter.all false
set_option maxRecDepth 100000
set_option maxHeartbeats 4000000
/-! bundles: a def that is called by its name, a method, a property, a static method, a class that is made -/
namespace GX
open PySem PySem.Spec PyProof.Rows L2
/-- a promise of positional values alone -/
def sk (sp : Sp) : Sk := fun vs zs H Q E => zs = [] ∧ sp vs H Q E
section
variable {P : Program} {w : World} {K : PySem.W.Frag} {mg : Str → Option Value} {base : Heap}
theorem FnOk.up {k : Nat} {f : Addr} {fd : FuncData} {ps : List Str} {sp : Sp} (F : FnOk P w K mg base CX0 k f fd ps sp) : FnOk P w K mg base (L2N.CX P w) k f fd ps sp :=
  ⟨F.len, fun A outer s H args us vs Q E hr he hb hv hs => codeAny_mono (F.run A outer s H args us vs Q E hr he hb hv hs) fun r s' hq => by
    cases r with
    | error e => exact False.elim hq
    | ok fl =>
      cases fl with
      | ret u => exact hq
      | next => exact False.elim hq
      | brk => exact False.elim hq
      | cont => exact False.elim hq⟩
theorem kbn_all {fd : FuncData} {ps : List Str} (b : Binds K fd ps []) : KBn K fd ps ps.length [] (fun us _ => us) (fun vs _ => vs) :=
  ⟨fun s us ws X l1 _ => by
    have z := b s us X (by rw [List.append_nil]; exact l1)
    rw [List.append_nil] at z
    exact z, fun r1 _ => r1⟩
theorem calK_of {k n : Nat} {f : Addr} {fd : FuncData} {ps : List Str} {sp : Sp} (F : FnOk P w K mg base (L2N.CX P w) k f fd ps sp) (b : Binds K fd ps []) (hn : ps.length = n) : CalK P w K mg base k f n [] (sk sp) := by
  subst hn
  exact ⟨fd, ps, sp, _, _, F, kbn_all b, fun vs zs H Q E h => ⟨F.len _ _ _ _ h.2, by rw [h.1]; rfl, h.2⟩⟩
/-- with a default or more at the end -/
theorem calK_df {k n m : Nat} {f : Addr} {fd : FuncData} {ps : List Str} {sp : Sp} {dvs : List V} (F : FnOk P w K mg base (L2N.CX P w) k f fd ps sp) (b : ∃ ds, Vals dvs ds ∧ Binds K fd ps ds) (hm : dvs.length = m) (hn : n + m = ps.length) : CalK P w K mg base k f n [] (sk fun vs H Q E => sp (vs ++ dvs) H Q E) := by
  obtain ⟨ds, rd, b⟩ := b
  refine ⟨fd, ps, sp, fun us _ => us ++ ds, fun vs _ => vs ++ dvs, F, ⟨fun s us ws X l1 _ => b s us X ?_, fun r1 _ => r1.append rd⟩, fun vs zs H Q E h => ⟨?_, by rw [h.1]; rfl, h.2⟩⟩
  · rw [List.length_append, ← rd.length]
    omega
  · have z := F.len _ _ _ _ h.2
    rw [List.length_append] at z
    omega
/-- with keywords -/
theorem calK_kw {k n : Nat} {f : Addr} {fd : FuncData} {ps ks : List Str} {sp : Sp} {g : List Value → List Value → List Value} {gV : List V → List V → List V} (F : FnOk P w K mg base (L2N.CX P w) k f fd ps sp) (b : KBn K fd ps n ks g gV) :
    CalK P w K mg base k f n ks (fun vs zs H Q E => vs.length = n ∧ zs.length = ks.length ∧ sp (gV vs zs) H Q E) := ⟨fd, ps, sp, g, gV, F, b, fun _ _ _ _ _ h => h⟩
theorem CalK.mono {j k n : Nat} {f : Addr} {ks : List Str} {sp : Sk} (c : CalK P w K mg base j f n ks sp) (h : j ≤ k) : CalK P w K mg base k f n ks sp := by
  obtain ⟨fd, ps, sp0, g, gV, F, b, q⟩ := c.ex
  exact ⟨fd, ps, sp0, g, gV, F.mono h, b, q⟩
theorem CalK.imp {k n : Nat} {f : Addr} {ks : List Str} {sp sp' : Sk} (c : CalK P w K mg base k f n ks sp) (h : ∀ vs zs H Q E, sp' vs zs H Q E → sp vs zs H Q E) : CalK P w K mg base k f n ks sp' := by
  obtain ⟨fd, ps, sp0, g, gV, F, b, q⟩ := c.ex
  exact ⟨fd, ps, sp0, g, gV, F, b, fun vs zs H Q E z => q _ _ _ _ _ (h _ _ _ _ _ z)⟩
end
/-- a def that is called by the name x -/
structure CalN (P : Program) (w : World) (K : PySem.W.Frag) (mg : Str → Option Value) (base : Heap) (k : Nat) (x : Str) (n : Nat) (ks : List Str) (sp : Sk) : Prop where
  ex : ∃ f, mg x = some (.ref f) ∧ PySem.W.keepIn K (.ref f) = true ∧ CalK P w K mg base k f n ks sp
/-- a class that is made by the name x -/
structure NewN (P : Program) (w : World) (K : PySem.W.Frag) (mg : Str → Option Value) (base : Heap) (k : Nat) (x : Str) (C : Addr) (n : Nat) (ks : List Str) (sp : Sk) : Prop where
  ex : ∃ f, mg x = some (.ref C) ∧ Mk K C f ∧ CalK P w K mg base k f (n + 1) ks sp
/-- a method -/
structure MetN (P : Program) (w : World) (K : PySem.W.Frag) (mg : Str → Option Value) (base : Heap) (k : Nat) (C : Addr) (m : Str) (n : Nat) (sp : Sk) : Prop where
  ex : ∃ f, Meth K C m f ∧ CalK P w K mg base k f n [] sp
structure StaN (P : Program) (w : World) (K : PySem.W.Frag) (mg : Str → Option Value) (base : Heap) (k : Nat) (C : Addr) (m : Str) (n : Nat) (sp : Sk) : Prop where
  ex : ∃ f, Stat K C m f ∧ CalK P w K mg base k f n [] sp
structure PrpN (P : Program) (w : World) (K : PySem.W.Frag) (mg : Str → Option Value) (base : Heap) (k : Nat) (C : Addr) (m : Str) (sp : Sk) : Prop where
  ex : ∃ p f, PropOf K C m p f ∧ CalK P w K mg base k f 1 [] sp
section
variable {X : Cx} {k j n : Nat} {C : Addr} {ks : List Str} {sp : Sk} {W : WX} {x m : Str} {p pos apos : Pos} {e o : Expr} {es : List Expr} {kws : List Keyword} {ta : TE} {t tk' : TA}
theorem pn_f (c : CalN X.prog X.w X.K X.mg X.base k x n [] sp) (hr : Room j X.A) (hj : k ≤ j) (tk : L2N.Takes X W) (hg : Gl X x) (ha : PA X (e :: es) t)
    (hdb : (x == ("__debug__" : Str)) = false := by decide) (he : starEach (e :: es) X.env = (false, eval e X.env) :: starEach es X.env := by rfl) (hpl : (backTo pos (starEach es X.env)).any (·.1) = false := by rfl) :
    PE X (.Call (.Name x p) (e :: es) [] pos) (tF sp W t tNil) := by
  obtain ⟨f, h1, h2, h3⟩ := c.ex
  exact pe_f h3 h1 h2 hr hj tk hg ha hdb he hpl
theorem pn_new (c : NewN X.prog X.w X.K X.mg X.base k x C n [] sp) (hr : Room j X.A) (hj : k + 1 ≤ j) (tk : L2N.Takes X W) (hg : Gl X x) (ha : PA X (e :: es) t)
    (hdb : (x == ("__debug__" : Str)) = false := by decide) (he : starEach (e :: es) X.env = (false, eval e X.env) :: starEach es X.env := by rfl) (hpl : (backTo pos (starEach es X.env)).any (·.1) = false := by rfl) :
    PE X (.Call (.Name x p) (e :: es) [] pos) (tNew C sp W t tNil) := by
  obtain ⟨f, h1, h2, h3⟩ := c.ex
  exact pe_new h2 h3 h1 hr hj tk hg ha hdb he hpl
theorem pn_newK (c : NewN X.prog X.w X.K X.mg X.base k x C n ks sp) (hr : Room j X.A) (hj : k + 1 ≤ j) (tk : L2N.Takes X W) (hg : Gl X x)
    (ha : PA X (e :: es) t) (hkw : PK X kws tk') (hall : (backToKw pos (keywordEach kws X.env)).all (·.1.isSome) = true := by rfl) (hks : (backToKw pos (keywordEach kws X.env)).filterMap (·.1) = ks := by rfl)
    (hdb : (x == ("__debug__" : Str)) = false := by decide) (he : starEach (e :: es) X.env = (false, eval e X.env) :: starEach es X.env := by rfl)
    (hpl : ((backTo pos (starEach (e :: es) X.env)).any (·.1) || (backToKw pos (keywordEach kws X.env)).any (·.1.isNone)) = false := by rfl) :
    PE X (.Call (.Name x p) (e :: es) kws pos) (tNew C sp W t tk') := by
  obtain ⟨f, h1, h2, h3⟩ := c.ex
  exact pe_newK h2 h3 h1 hr hj tk hg ha hkw hall hks hdb he hpl
/-- C(k = e, ..): keywords alone -/
theorem pn_newK0 (c : NewN X.prog X.w X.K X.mg X.base k x C n ks sp) (hr : Room j X.A) (hj : k + 1 ≤ j) (tk : L2N.Takes X W) (hg : Gl X x)
    (hkw : PK X kws tk') (hall : (backToKw pos (keywordEach kws X.env)).all (·.1.isSome) = true := by rfl) (hks : (backToKw pos (keywordEach kws X.env)).filterMap (·.1) = ks := by rfl)
    (hdb : (x == ("__debug__" : Str)) = false := by decide)
    (hpl : ((backTo pos (starEach [] X.env)).any (·.1) || (backToKw pos (keywordEach kws X.env)).any (·.1.isNone)) = false := by rfl) :
    PE X (.Call (.Name x p) [] kws pos) (tNew C sp W tNil tk') := by
  obtain ⟨f, hm, M, c⟩ := c.ex
  refine ⟨fun pins s σ H Q I h => ?_⟩
  refine wpAny_Call_Name_kw (ld_glob I hg hm ?_ hdb)
  refine PySem.W.callWith_KW0 (h₀ := X.base) I.ok.mod.kin M.kp hall (thn (hkw.run pos pins s σ H _ I h) fun ws s2 ⟨zs, H2, I2, rz, q2⟩ => ⟨I2.kIn, ?_⟩) hpl
  rw [hks]
  exact run_new (us := []) (vs := []) M c (hr.mono hj) tk I2 .nil rz q2
theorem pn_m {pl : Sem Bool} (hc : Cls X.K C) (c : MetN X.prog X.w X.K X.mg X.base k C m n sp) (hr : Room j X.A) (hj : k ≤ j) (tk : L2N.Takes X W) (he : PE X o ta) (ha : PA X (e :: es) t)
    (hst : starEach (e :: es) X.env = (false, eval e X.env) :: starEach es X.env := by rfl) (hpl : (backTo pos (starEach es X.env)).any (·.1) = false := by rfl)
    (ht : eval (.Call (.Attribute o m apos) (e :: es) [] pos) X.env = (do
      let ov ← eval o X.env
      standAt apos.atName
      let (f, first) ← holding [ov] (getMethod ov m pl)
      callWith pos f first (backTo pos (starEach (e :: es) X.env)) (backToKw pos (keywordEach [] X.env))) := by rfl) :
    PE X (.Call (.Attribute o m apos) (e :: es) [] pos) (tM C m sp W ta t) := by
  obtain ⟨f, h1, h2⟩ := c.ex
  exact pe_m hc h1 h2 hr hj tk he ha hst hpl ht
theorem pn_m0 {pl : Sem Bool} (hc : Cls X.K C) (c : MetN X.prog X.w X.K X.mg X.base k C m n sp) (hr : Room j X.A) (hj : k ≤ j) (tk : L2N.Takes X W) (he : PE X o ta)
    (ht : eval (.Call (.Attribute o m apos) [] [] pos) X.env = (do
      let ov ← eval o X.env
      standAt apos.atName
      let (f, first) ← holding [ov] (getMethod ov m pl)
      callWith pos f first (backTo pos (starEach [] X.env)) (backToKw pos (keywordEach [] X.env))) := by rfl) :
    PE X (.Call (.Attribute o m apos) [] [] pos) (tM C m sp W ta tNil) := by
  obtain ⟨f, h1, h2⟩ := c.ex
  exact pe_m0 hc h1 h2 hr hj tk he ht
theorem pn_st {pl : Sem Bool} (c : StaN X.prog X.w X.K X.mg X.base k C m n sp) (hr : Room j X.A) (hj : k ≤ j) (tk : L2N.Takes X W) (he : PE X o ta) (ha : PA X (e :: es) t)
    (hst : starEach (e :: es) X.env = (false, eval e X.env) :: starEach es X.env := by rfl) (hpl : (backTo pos (starEach es X.env)).any (·.1) = false := by rfl)
    (ht : eval (.Call (.Attribute o m apos) (e :: es) [] pos) X.env = (do
      let ov ← eval o X.env
      standAt apos.atName
      let (f, first) ← holding [ov] (getMethod ov m pl)
      callWith pos f first (backTo pos (starEach (e :: es) X.env)) (backToKw pos (keywordEach [] X.env))) := by rfl) :
    PE X (.Call (.Attribute o m apos) (e :: es) [] pos) (tS C sp W ta t) := by
  obtain ⟨f, h1, h2⟩ := c.ex
  exact pe_st h1 h2 hr hj tk he ha hst hpl ht
/-- o.p, a property of the class at C -/
def tP (C : Addr) (sp : Sk) (ta : TE) : TE := fun σ H Q => ta σ H fun x H1 => ∃ a dx fs, x = .ref a ∧ H1 a = some (.ins C dx fs) ∧ sp [.ref a] [] H1 Q (fun _ _ _ => False)
theorem pn_p (hc : Cls X.K C) (c : PrpN X.prog X.w X.K X.mg X.base k C m sp) (hr : Room j X.A) (hj : k + 1 ≤ j) (he : PE X o ta) (hab : attributeBase o m X.env (eval o X.env) = eval o X.env := by rfl) : PE X (.Attribute o m pos) (tP C sp ta) := by
  obtain ⟨pr, g0, hp, c⟩ := c.ex
  obtain ⟨fd, ps, sp0, g, gV, F, hb, hsp⟩ := c.ex
  refine ⟨fun pins s σ H Q I h => ?_⟩
  refine attr_of hab (thn (he.run pins s σ H _ I h) fun u s1 ⟨x, H1, I1, rx, a, dx, fs, ex, ea, q⟩ => ?_)
  subst ex
  obtain rfl : u = Value.ref a := rx
  obtain ⟨l1, l2, h0⟩ := hsp _ _ _ _ _ q
  obtain ⟨mA, O, _, _, _, _⟩ := ins_get I1.hok ea
  obtain ⟨od, J, _⟩ := O.look
  obtain ⟨rest, hrec⟩ := hp.rec_
  have I2 := I1.tok (s1.toks + 1)
  have hcl : (PySem.W.clsIn X.K C).isSome = true := by
    obtain ⟨cd, hc, _⟩ := PySem.W.any_some hc.hd
    rw [hc]
    rfl
  refine PySem.W.get_bind I1.kIn J (PySem.W.plainGet_of (hc.get m)).1 (PySem.W.findObj_data hcl hp.at_ hp.get hp.tak) (PySem.W.plainGet_of (hc.get m)).2 (wpAny_call (PySem.W.prop_get (s := { s1 with toks := s1.toks + 1 }) I1.kIn hrec ?_))
  have r1 : Vals [V.ref a] [Value.ref a] := .cons rfl .nil
  refine codeAny_mono (F.run X.A.in1 X.stack { s1 with toks := s1.toks + 1 } H1 ⟨[.ref a], []⟩ (g [.ref a] []) (gV [.ref a] []) Q _ (hr.mono hj).in1 I2.env0.in1 (hb.to _ [.ref a] [] I1.kIn rfl rfl) (hb.rel r1 .nil) h0) fun r s' hq => ?_
  cases r with
  | error er =>
    obtain ⟨_, _, _, _, _, _, _, _, _, _, _, _, z⟩ := hq
    exact z.elim
  | ok fl =>
    cases fl with
    | ret u =>
      obtain ⟨v, H', I3, rv, q3⟩ := I2.after hq
      show wpAny _ _ (handedOut u) _ _ _
      rw [PySem.W.handedOut_of (handed_of rv)]
      exact wpAny_pure ⟨v, H', I3, rv, q3⟩
    | next => exact False.elim hq
    | brk => exact False.elim hq
    | cont => exact False.elim hq
end
/-- nothing leaves it -/
abbrev W0 : WX := fun _ _ _ _ => False
end GX
/-! part GxF -/
set_option Elab.async false
set_option linter.all false
set_option maxRecDepth 100000
set_option maxHeartbeats 4000000
/-! max of a tuple of ints; small helpers -/
namespace GX
open PySem PySem.Spec PyProof.Rows L2
section
variable {prog : Program} {w : World} {A : Around} {E : Value → Shared → Prop} {s : Shared} {l : Addr}
theorem max_intTuple {xs : Array (Int × Tok)} {Q : Value → Shared → Prop} (hh : A.handled = none) (hl : s.heap.IsTuple l (intItems xs)) (hne : 0 < xs.size)
    (h : ∀ v h' tk, (intItems xs)[argBest (fun i j => decide (numAt xs i > numAt xs j)) (xs.size - 1)]? = some v → (∀ b o, s.heap.get? b = some o → h'.get? b = some o) → Q v { s with heap := h', toks := tk }) :
    wpAny (model prog w) A (call (.builtin "max") [.ref l]) Q E s := by
  have hlt : l < s.heap.objs.size := by obtain ⟨_, e, _⟩ := hl; exact Heap.lt_size e
  refine call_max_walk (wpAny_pyIter_tuple hl ?_)
  refine ⟨_, [s.heap.objs.size, l], [_], _, _, _, _, rfl, Walks.tuple (A := A.in1) hh _ l (Nat.ne_of_lt hlt) (intItems xs), ⟨⟨_, Heap.get?_push_size _ rfl, rfl, rfl⟩, hl.push _⟩, fun c hc => ?_, by simpa [intItems] using hne, CmpOf.ints_gt (numAt xs) (fun _ _ => intItems_at), fun v h' tk hP hk => ?_⟩
  · show c < (s.heap.push _).objs.size
    rw [Heap.size_push]
    rcases List.mem_cons.mp hc with rfl | hc
    · exact Nat.lt_succ_self _
    · rcases List.mem_cons.mp hc with rfl | hc
      · exact Nat.lt_succ_of_lt hlt
      · cases hc
  · refine h v h' tk (by simpa [intItems] using hP) fun b o e => hk b o (fun hm => ?_) (Heap.get?_push_of_some _ e)
    rcases List.mem_cons.mp hm with e1 | hm
    · exact absurd (e1 ▸ Heap.lt_size e) (Nat.lt_irrefl _)
    · cases hm
theorem max_rawT {its : List Value} {ns : List Int} {Q : Value → Shared → Prop} (hh : A.handled = none) (hl : s.heap.IsTuple l its.toArray) (hi : IntsAre its ns) (hne : 0 < ns.length)
    (h : ∀ h' tk M t', (∀ b o, s.heap.get? b = some o → h'.get? b = some o) → M ∈ ns → (∀ a, a ∈ ns → a ≤ M) → Q (.int M t') { s with heap := h', toks := tk }) : wpAny (model prog w) A (call (.builtin "max") [.ref l]) Q E s := by
  obtain ⟨xs, e⟩ := hi.allInts.items
  have hn : numsOf (intItems xs).toList = ns := by rw [← e]; exact hi.numsOf
  rw [nums_intItems] at hn
  subst hn
  rw [e] at hl
  have hsz : 0 < xs.size := by simpa using hne
  refine max_intTuple hh hl hsz fun v h' tk hv hk => ?_
  obtain ⟨t, rfl⟩ := intItems_at hv
  obtain ⟨h1, h2⟩ := argBest_gt (numAt xs) (xs.size - 1)
  refine h h' tk _ t hk ?_ fun a ha => ?_
  · rw [numAt_eq]; exact PySem.getD_mem (by rw [List.length_map, Array.length_toList]; omega)
  · obtain ⟨j, hj, rfl⟩ := mem_getD ha
    rw [List.length_map, Array.length_toList] at hj
    rw [← numAt_eq]; exact h2 j (by omega)
end
section
variable {X : Cx}
/-- max(t), t a tuple of ints -/
def rMaxT (K : PySem.W.Frag) : List V → Hp → VK → Prop := fun vs H Q => ∃ (a : Addr) (ns : List Int), vs = [V.ref a] ∧ SqT K H a (ns.map V.int) ∧ 0 < ns.length ∧ ∀ m, m ∈ ns → (∀ y, y ∈ ns → y ≤ m) → Q (.int m) H
theorem cr_maxT (hc : X.calm = true) : CallR X (.builtin "max") (rMaxT X.K) := by
  intro pins s σ H vs us Q I r h
  obtain ⟨a, ns, rfl, hs, hne, q⟩ := h
  obtain ⟨its, rv, hl, _⟩ := I.tuple hs
  rw [Vals.ref1 r]
  exact max_rawT (I.ok.hd hc) hl rv.ints hne fun h' tk m t' hk h1 h2 => ⟨.int _, H, I.kept hk, ⟨_, rfl⟩, q m h1 h2⟩
end
/-! ### heaps: all but one kept -/
def Kp (b : Addr) (H H' : Hp) : Prop := ∀ c o, H c = some o → c ≠ b → H' c = some o
theorem Kp.refl (b : Addr) (H : Hp) : Kp b H H := fun _ _ e _ => e
theorem Kp.trans {b : Addr} {H H1 H2 : Hp} (a : Kp b H H1) (c : Kp b H1 H2) : Kp b H H2 := fun x o e n => c x o (a x o e n) n
theorem Same.kp {b : Addr} {H H' : Hp} (s : Same H H') : Kp b H H' := fun c o e _ => s c o e
theorem Same.put {H : Hp} {p : Addr} {o : HO} (n : H p = none) : Same H (upd H p o) := fun c u e => by rw [upd_ne (ne_of_none e n)]; exact e
theorem Kp.put {b : Addr} {H : Hp} {o : HO} : Kp b H (upd H b o) := fun c u e n => by rw [upd_ne n]; exact e
theorem Same.sqT {K : PySem.W.Frag} {H H' : Hp} {a : Addr} {xs : List V} (e : Same H H') (h : SqT K H a xs) : SqT K H' a xs := by
  rcases h with (h | ⟨o, h⟩) | h
  · exact .inl (.inl (e _ _ h))
  · exact .inl (.inr ⟨o, e _ _ h⟩)
  · exact .inr h
theorem Kp.sqT {K : PySem.W.Frag} {H H' : Hp} {a b : Addr} {xs : List V} (e : Kp b H H') (h : SqT K H a xs) (n : a ≠ b) : SqT K H' a xs := by
  rcases h with (h | ⟨o, h⟩) | h
  · exact .inl (.inl (e _ _ h n))
  · exact .inl (.inr ⟨o, e _ _ h n⟩)
  · exact .inr h
theorem Kp.sqL {K : PySem.W.Frag} {H H' : Hp} {a b : Addr} {xs : List V} (e : Kp b H H') (h : SqL K H a xs) (n : a ≠ b) : SqL K H' a xs := by
  rcases h with (h | ⟨o, h⟩) | h
  · exact .inl (.inl (e _ _ h n))
  · exact .inl (.inr ⟨o, e _ _ h n⟩)
  · exact .inr h
end GX
/-! part GxG -/
set_option Elab.async false
set_option linter.all false
set_option maxRecDepth 100000
set_option maxHeartbeats 4000000
/-! readings of comprehensions: over a text; two ranges -/
namespace GX
open PySem PySem.Spec PyProof.Rows L2
theorem lc_str {x : Str} {g : TG} {tt : TT} {te : TE} {vs : List Nat} {σ : L2.St} {H1 : Hp} {D : Addr} {Qd : Hp → Prop} (Pv : Nat → Hp → Prop) (h0 : Pv 0 (upd H1 D (.lst [])))
    (hs : ∀ (i c : Nat) (H : Hp), x.cps.toList[i]? = some c → Pv i H → g (.str ⟨#[c]⟩) (wipe σ vs) H fun σ2 H2 => wipe σ2 vs = wipe σ vs ∧ tt σ2 H2 fun b H3 =>
      if b = true then te σ2 H3 fun y H4 => ∃ acc, H4 D = some (.lst acc) ∧ acc.length < sizeLine ∧ Pv (i + 1) (upd H4 D (.lst (acc ++ [y]))) else Pv (i + 1) H3) (hd : ∀ H, Pv x.cps.toList.length H → Qd H) :
    ∃ W : Nat → Nat → Hp → Prop, (∃ m, W 0 m (upd H1 D (.lst []))) ∧ ∀ i m H, W i m H →
      ((Its x).stop i H ∧ Qd H) ∨ ((Its x).go i H ∧ ∃ Nx : Hp → Prop, (∀ H', Nx H' → ∃ m', m' < m ∧ W (i + 1) m' H') ∧ ∀ v H', (Its x).yld i H v H' → g v (wipe σ vs) H' fun σ2 H2 => wipe σ2 vs = wipe σ vs ∧ tt σ2 H2 fun b H3 =>
        if b = true then te σ2 H3 fun y H4 => ∃ acc, H4 D = some (.lst acc) ∧ acc.length < sizeLine ∧ Nx (upd H4 D (.lst (acc ++ [y]))) else Nx H3) := by
  have hz : x.cps.toList.length = x.cps.size := Array.length_toList
  refine ⟨fun i m H => m = x.cps.size - i ∧ i ≤ x.cps.size ∧ Pv i H, ⟨x.cps.size, by simp, Nat.zero_le _, h0⟩, ?_⟩
  rintro i m H ⟨rfl, hi, p⟩
  by_cases hlt : i < x.cps.size
  · refine .inr ⟨hlt, Pv (i + 1), fun H' p' => ⟨x.cps.size - (i + 1), by omega, rfl, hlt, p'⟩, fun v H' y => ?_⟩
    obtain ⟨e, c, hc, rfl⟩ := y
    subst e
    exact hs i c _ (by rw [Array.getElem?_toList]; exact hc) p
  · have e : i = x.cps.size := by omega
    subst e
    exact .inl ⟨Nat.le_refl _, hd H (by rw [hz]; exact p)⟩
/-- for i, x in enumerate(xs), the list stands still -/
theorem for_enum {K : PySem.W.Frag} {a : Addr} {xs : List V} {g : TG} {tb : TS} {D : Ends} {σ : L2.St} {H : Hp} (Pv : Nat → L2.St → Hp → Prop) (h0 : Pv 0 σ H) (hl : ∀ i σ H, i ≤ xs.length → Pv i σ H → SqL K H a xs)
    (hs : ∀ (i : Nat) (x : V) (T : Addr) (σ : L2.St) (H : Hp), xs[i]? = some x → H T = none → Pv i σ H → g (.ref T) σ (upd H T (.tup [.int (i : Nat), x])) fun σ2 H2 => tb { D with nx := Pv (i + 1), ct := Pv (i + 1), bk := D.nx } σ2 H2) (hd : ∀ σ H, Pv xs.length σ H → D.nx σ H) :
    ∃ W : Nat → Nat → L2.St → Hp → Prop, (∃ m, W 0 m σ H) ∧ ∀ i m σ H, W i m σ H →
      ((Ite K a).stop i H ∧ D.nx σ H) ∨ ((Ite K a).go i H ∧ ∃ N : L2.St → Hp → Prop, (∀ σ' H', N σ' H' → ∃ m', m' < m ∧ W (i + 1) m' σ' H') ∧ ∀ v H', (Ite K a).yld i H v H' → g v σ H' fun σ2 H2 => tb { D with nx := N, ct := N, bk := D.nx } σ2 H2) := by
  refine ⟨fun i m σ H => m = xs.length - i ∧ i ≤ xs.length ∧ Pv i σ H, ⟨xs.length, rfl, Nat.zero_le _, h0⟩, ?_⟩
  rintro i m σ H ⟨rfl, hi, p⟩
  have q := hl i σ H hi p
  by_cases hlt : i < xs.length
  · have hx : xs[i]? = some xs[i] := List.getElem?_eq_getElem hlt
    refine .inr ⟨⟨xs, _, q, hx⟩, Pv (i + 1), fun σ' H' p' => ⟨xs.length - (i + 1), by omega, rfl, hlt, p'⟩, fun v H' y => ?_⟩
    obtain ⟨T, x, rfl, hT, rfl, f⟩ := y
    exact hs i x T σ H (f xs q) hT p
  · have e : i = xs.length := by omega
    subst e
    exact .inl ⟨⟨xs, q, Nat.le_refl _⟩, hd σ H p⟩
end GX
/-! part GxH -/
set_option Elab.async false
set_option linter.all false
set_option maxRecDepth 100000
set_option maxHeartbeats 4000000
/-! the facts of an own exception class, as they are read off the written part -/
namespace GX
open PySem PySem.W PySem.Spec PyProof.Rows L2
theorem exs_mk {prog : Program} {K : Frag} {h : Heap} {mg : Str → Option Value} {B newId initId : String} {bmB : List Value} {C fI : Addr} {f x : Str} {st : Stmt} {oc : Value} {od : Option Addr} {qual : Str} {doc pm : Value} {an : Option Addr} {cda : Addr} {ct : Value} {osl : Array (Option Value)} {cc : Addr} {ar : Arg}
    {ccl cl : Value} {cdd cld : Option Addr} {vs : Array Value} {ccs csl : Array (Option Value)} {file : Str} {tf : Tok} {p0 p1 p2 p3 p4 p5 q1 q2 q3 q4 : Pos} {j : Nat} {m : Str} (X : K.In h) (G : h.Ns mainGlobals mg)
    (aC : nsIn K mainGlobals x = some (some (.ref C))) (at_ : findIn K (.ref C) "__init__" = some (some (.ref fI))) (fn : isFn K (.ref fI) = true)
    (l : K.lookup fI = some ⟨oc, od, .func (ksFn "__init__" qual (defArgs st) (defBody st) (defScope st) .none .none doc pm an (.ref cda) ct cc), osl⟩) (lc : codeIn K (.ref cda) qual = true)
    (ld : K.lookup cda = some ⟨ccl, cdd, .fields vs, ccs⟩) (lcc : K.lookup cc = some ⟨cl, cld, .cell (some (.ref C)), csl⟩)
    (q : excInitIn K C bmB newId = true) (ov : excOver K C bmB = true) (sa : findIn K (.ref C) "__setattr__" = some (some (.builtin "object.__setattr__"))) (no : findIn K (.ref C) f = some none) (hd : hasDictIn K C = true) (subB : subIn K (.ref C) (.type B) = some true)
    (sup : ks_superIn K C C "__init__" = some (some (.builtin initId))) (mro : mroIn K C (.ref C) = some true) (opq : nsIn K cStatics "thirdparty.any" = some none) (ns : nsIn K mainGlobals "super" = some none)
    (kC : keepIn K (.ref C) = true) (exC : subIn K (.ref C) (.type "BaseException") = some true) (tyC : typeIn K (.ref C) = some (.type "type"))
    (hvs : vs[2]? = some (.str file tf)) (hfile : ((prog.main.file : Str) == file) = true) (hb : defBody st = exB p0 p1 p2 p3 p4 p5 q1 q2 q3 q4 j m f) (top : (prog.main.scope.names.lookup ("super" : Str)).isSome = false) (fne : ("self" : Str) ≠ f) (fdb : (f == ("__debug__" : Str)) = false)
    (hhd : ((defArgs st).posonlyargs ++ (defArgs st).args).head? = some ar) (har : ar.arg = "self")
    (bi : ∀ us : List Value, us.length = 2 → bindArgs (ksFn "__init__" qual (defArgs st) (exB p0 p1 p2 p3 p4 p5 q1 q2 q3 q4 j m f) (defScope st) .none .none doc pm an (.ref cda) ct cc) ⟨us, []⟩ = pure ((["self", f] : List Str).zip us))
    (hcell : ∀ x ∈ (defScope st).names, x.2 ≠ .cell) (k1 : (defScope st).names.lookup ("self" : Str) = some .local) (k2 : (defScope st).names.lookup f = some .local) (k3 : (defScope st).names.lookup ("super" : Str) = some .globalImplicit) (k4 : (defScope st).names.lookup ("__class__" : Str) = some .free)
    (k5 : (defScope st).isCoroutine = false) (k6 : (defScope st).isGenerator = false) (k7 : (defScope st).kind = .function)
    (pl : Sem Bool) (he : ∀ env : Env, eval (.Call (.Attribute (.Call (.Name "super" p0) [] [] p1) "__init__" p2) [.Constant (.str m) j p3] [] p4) env = (do
      let ov ← attributeBase (.Call (.Name "super" p0) [] [] p1) "__init__" env (eval (.Call (.Name "super" p0) [] [] p1) env)
      standAt p2.atName
      let (f, first) ← holding [ov] (getMethod ov "__init__" pl)
      callWith p4 f first (backTo p4 (starEach [.Constant (.str m) j p3] env)) [])) :
    Exs prog K mg B newId initId bmB C fI f ∧ ExR K mg x C := by
  rw [hb] at l
  exact ⟨⟨q, ov, sa, no, hd, subB, sup, mro, opq, mg_none_of X G ns, top, fne, fdb, ⟨at_, fn, oc, od, qual, defArgs st, defScope st, doc, pm, an, cda, ct, osl, cc, ar, ccl, cl, cdd, cld, vs, ccs, csl, file, tf, p0, p1, p2, p3, p4, p5, q1, q2, q3, q4, j, m, l, lc, ld, hvs, hfile, lcc, hhd, har, bi, hcell, k1, k2, k3, k4, k5, k6, k7, pl, he⟩⟩, ⟨mg_of X G aC, kC, exC, tyC⟩⟩
end GX
/-! part D40 -/
set_option Elab.async false
set_option linter.all false
set_option maxRecDepth 100000
set_option maxHeartbeats 4000000
namespace K40
open PySem L2 GX
def top (i : Nat) : Stmt := PySem.Challenge.pw_goesround_k40_tori_read_and_told.main.body.getD i (.Pass ⟨0, 0, 0, 0⟩)
abbrev s_is_number_word : Stmt := top 21
theorem sc_is_number_word : FnScope ["word"] ["word"] (defScope s_is_number_word) := ⟨rfl, rfl, rfl, by decide +kernel, rfl, by decide +kernel, by decide +kernel⟩
abbrev s_Torus___init__ : Stmt := inClass (top 22) 0
theorem sc_Torus___init__ : FnScope ["self", "width", "height", "twist"] ["self", "width", "height", "twist"] (defScope s_Torus___init__) := ⟨rfl, rfl, rfl, by decide +kernel, rfl, by decide +kernel, by decide +kernel⟩
abbrev s_Torus_read : Stmt := inClass (top 22) 1
theorem sc_Torus_read : FnScope ["text", "words", "at", "word", "twist"] ["text"] (defScope s_Torus_read) := ⟨rfl, rfl, rfl, by decide +kernel, rfl, by decide +kernel, by decide +kernel⟩
abbrev s_Torus_sites : Stmt := inClass (top 22) 2
theorem sc_Torus_sites : FnScope ["self", "i", "j"] ["self"] (defScope s_Torus_sites) := ⟨rfl, rfl, rfl, by decide +kernel, rfl, by decide +kernel, by decide +kernel⟩
abbrev s_Torus_text : Stmt := inClass (top 22) 3
theorem sc_Torus_text : FnScope ["self"] ["self"] (defScope s_Torus_text) := ⟨rfl, rfl, rfl, by decide +kernel, rfl, by decide +kernel, by decide +kernel⟩
abbrev s_Torus_written : Stmt := inClass (top 22) 4
theorem sc_Torus_written : FnScope ["self", "i", "j", "rounds"] ["self", "i", "j"] (defScope s_Torus_written) := ⟨rfl, rfl, rfl, by decide +kernel, rfl, by decide +kernel, by decide +kernel⟩
abbrev s_Torus_closes : Stmt := inClass (top 22) 5
theorem sc_Torus_closes : FnScope ["self", "i", "j"] ["self", "i", "j"] (defScope s_Torus_closes) := ⟨rfl, rfl, rfl, by decide +kernel, rfl, by decide +kernel, by decide +kernel⟩
abbrev s_Torus___eq__ : Stmt := inClass (top 22) 6
theorem sc_Torus___eq__ : FnScope ["self", "other"] ["self", "other"] (defScope s_Torus___eq__) := ⟨rfl, rfl, rfl, by decide +kernel, rfl, by decide +kernel, by decide +kernel⟩
abbrev s_law_bag : Stmt := top 24
theorem sc_law_bag : FnScope ["script", "salt", "mixed", "cell"] ["script", "salt"] (defScope s_law_bag) := ⟨rfl, rfl, rfl, by decide +kernel, rfl, by decide +kernel, by decide +kernel⟩
abbrev s_law_draw : Stmt := top 25
theorem sc_law_draw : FnScope ["bag", "many", "cell", "low"] ["bag", "many"] (defScope s_law_draw) := ⟨rfl, rfl, rfl, by decide +kernel, rfl, by decide +kernel, by decide +kernel⟩
abbrev s_law_of : Stmt := top 26
theorem sc_law_of : FnScope ["bag", "things"] ["bag", "things"] (defScope s_law_of) := ⟨rfl, rfl, rfl, by decide +kernel, rfl, by decide +kernel, by decide +kernel⟩
abbrev s_law_like : Stmt := top 27
theorem sc_law_like : FnScope ["told", "due", "fits", "a", "b"] ["told", "due"] (defScope s_law_like) := ⟨rfl, rfl, rfl, by decide +kernel, rfl, by decide +kernel, by decide +kernel⟩
abbrev s_law_site : Stmt := top 28
theorem sc_law_site : FnScope ["shape", "i", "j", "lap"] ["shape", "i", "j"] (defScope s_law_site) := ⟨rfl, rfl, rfl, by decide +kernel, rfl, by decide +kernel, by decide +kernel⟩
abbrev s_law_sites : Stmt := top 29
theorem sc_law_sites : FnScope ["shape", "k"] ["shape"] (defScope s_law_sites) := ⟨rfl, rfl, rfl, by decide +kernel, rfl, by decide +kernel, by decide +kernel⟩
abbrev s_law_size : Stmt := top 30
theorem sc_law_size : FnScope ["bag"] ["bag"] (defScope s_law_size) := ⟨rfl, rfl, rfl, by decide +kernel, rfl, by decide +kernel, by decide +kernel⟩
abbrev s_law_fault : Stmt := top 31
theorem sc_law_fault : FnScope ["e", "wrong"] ["e"] (defScope s_law_fault) := ⟨rfl, rfl, rfl, by decide +kernel, rfl, by decide +kernel, by decide +kernel⟩
abbrev s_law_called : Stmt := top 32
theorem sc_law_called : FnScope ["numbers", "e"] ["numbers"] (defScope s_law_called) := ⟨rfl, rfl, rfl, by decide +kernel, rfl, by decide +kernel, by decide +kernel⟩
abbrev s_law_read : Stmt := top 33
theorem sc_law_read : FnScope ["text", "e"] ["text"] (defScope s_law_read) := ⟨rfl, rfl, rfl, by decide +kernel, rfl, by decide +kernel, by decide +kernel⟩
abbrev s_law_plain : Stmt := top 34
theorem sc_law_plain : FnScope ["word", "good", "sign"] ["word"] (defScope s_law_plain) := ⟨rfl, rfl, rfl, by decide +kernel, rfl, by decide +kernel, by decide +kernel⟩
abbrev s_law_range : Stmt := top 35
theorem sc_law_range : FnScope ["numbers"] ["numbers"] (defScope s_law_range) := ⟨rfl, rfl, rfl, by decide +kernel, rfl, by decide +kernel, by decide +kernel⟩
abbrev s_law_due : Stmt := top 36
theorem sc_law_due : FnScope ["words", "k", "word", "numbers"] ["words"] (defScope s_law_due) := ⟨rfl, rfl, rfl, by decide +kernel, rfl, by decide +kernel, by decide +kernel⟩
abbrev s_law_ring_so : Stmt := top 37
theorem sc_law_ring_so : FnScope ["bag", "ring", "shape", "told", "lap", "i", "j", "a", "b", "here"] ["bag", "ring", "shape"] (defScope s_law_ring_so) := ⟨rfl, rfl, rfl, by decide +kernel, rfl, by decide +kernel, by decide +kernel⟩
abbrev s_law_made_so : Stmt := top 38
theorem sc_law_made_so : FnScope ["bag", "shape", "ring", "some", "mine", "unlike", "x"] ["bag", "shape"] (defScope s_law_made_so) := ⟨rfl, rfl, rfl, by decide +kernel, rfl, by decide +kernel, by decide +kernel⟩
abbrev s_law_bent_so : Stmt := top 39
theorem sc_law_bent_so : FnScope ["bag", "shape", "numbers", "lap", "k", "told", "at"] ["bag", "shape"] (defScope s_law_bent_so) := ⟨rfl, rfl, rfl, by decide +kernel, rfl, by decide +kernel, by decide +kernel⟩
abbrev s_law_words : Stmt := top 40
theorem sc_law_words : FnScope ["bag", "shape", "mine", "lap", "pick", "k", "bad", "n"] ["bag", "shape"] (defScope s_law_words) := ⟨rfl, rfl, rfl, by decide +kernel, rfl, by decide +kernel, by decide +kernel⟩
abbrev s_law : Stmt := top 41
theorem sc_law : FnScope ["script", "bag", "lap", "wide", "shape", "turn", "words", "told", "due"] ["script"] (defScope s_law) := ⟨rfl, rfl, rfl, by decide +kernel, rfl, by decide +kernel, by decide +kernel⟩

/-- what the top has left, as names -/
structure Txt (K : PySem.W.Frag) (mg : Str → Option Value) (C CB : Addr) : Prop where
  cl : Cls K C
  nW : NoAttr K C "width"
  nH : NoAttr K C "height"
  nT : NoAttr K C "twist"
  g_Torus : mg "Torus" = some (.ref C)
  m_len : mg "len" = none
  m_int : mg "int" = none
  m_str : mg "str" = none
  m_bool : mg "bool" = none
  m_list : mg "list" = none
  m_tuple : mg "tuple" = none
  m_isinstance : mg "isinstance" = none
  m_range : mg "range" = none
  m_zip : mg "zip" = none
  m_enumerate : mg "enumerate" = none
  m_all : mg "all" = none
  m_abs : mg "abs" = none
  m_max : mg "max" = none
  m_min : mg "min" = none
  nfT : PySem.W.notFirst K C (.ref C) = true
  nfTup : PySem.W.notFirst K C (.type "tuple") = true
  nfStr : PySem.W.notFirst K C (.type "str") = true
  isT : PySem.W.kitOne K (.ref C) (.ref C) = some true
  eqTup : PySem.W.kitOne K (.type "tuple") (.ref C) = some false
  eqStr : PySem.W.kitOne K (.type "str") (.ref C) = some false
  ownTy : ∀ {H : Hp} {a dx : Addr} {fs : List (Str × V)}, H a = some (.ins C dx fs) → TyX K H (.ref a) (.ref C)
end K40
/-! part A40 -/
set_option Elab.async false
set_option linter.all false
set_option maxRecDepth 100000
set_option maxHeartbeats 4000000
namespace K40
open PySem L2 GX
/-- the bag of draws at b, at most n draws done -/
structure BagAt (H : Hp) (b : Addr) (n : Nat) : Prop where
  ex : ∃ (L : Addr) (ns : List Int) (i cell mixed cnt : Int), H b = some (.lst [.ref L, .int i, .int cell, .int mixed, .int cnt]) ∧ H L = some (.lst (ns.map V.int)) ∧ 0 ≤ i ∧ 0 ≤ cell ∧ 0 ≤ mixed ∧ mixed < 2147483647 ∧ 0 ≤ cnt ∧ cnt ≤ n
theorem BagAt.mono {H : Hp} {b : Addr} {m n : Nat} (B : BagAt H b m) (h : m ≤ n) : BagAt H b n := by
  obtain ⟨L, ns, i, cell, mixed, cnt, h1, h2, h3, h4, h5, h6, h7, h8⟩ := B.ex
  exact ⟨L, ns, i, cell, mixed, cnt, h1, h2, h3, h4, h5, h6, h7, by omega⟩
theorem BagAt.same {H H' : Hp} {b : Addr} {n : Nat} (B : BagAt H b n) (s : Same H H') : BagAt H' b n := by
  obtain ⟨L, ns, i, cell, mixed, cnt, h1, h2, h⟩ := B.ex
  exact ⟨L, ns, i, cell, mixed, cnt, s _ _ h1, s _ _ h2, h⟩
theorem BagAt.ne {H : Hp} {b : Addr} {n : Nat} {p : Addr} (B : BagAt H b n) (h : H p = none) : b ≠ p := by
  obtain ⟨L, ns, i, cell, mixed, cnt, h1, _⟩ := B.ex
  exact ne_of_none h1 h
/-- the bag's list stays the same object -/
def Hd (b : Addr) (H H' : Hp) : Prop := ∀ L r, H b = some (.lst (.ref L :: r)) → ∃ r', H' b = some (.lst (.ref L :: r'))
def spDraw : Sp := fun vs H Q _ => ∃ (b : Addr) (n : Nat) (many : Int), vs = [.ref b, .int many] ∧ BagAt H b n ∧ n < 1000000000 ∧ 0 < many ∧ many < 1073741824 ∧
  ∀ (r : Int) (H' : Hp), 0 ≤ r → r < many → Kp b H H' → BagAt H' b (n + 1) → Hd b H H' → Q (.int r) H'
section
variable {P : Program} {w : World} {K : PySem.W.Frag} {mg : Str → Option Value} {base : Heap} {C CB : Addr} {f : Addr} {fd : FuncData}
theorem emod_lt (a : Int) {m : Int} (h : 0 < m) : 0 ≤ a % m ∧ a % m < m := ⟨Int.emod_nonneg a (by omega), Int.emod_lt_of_pos a h⟩
theorem via {P G : Hp → Prop} {H' : Hp} (c : P H') (k : ∀ H', P H' → G H') : G H' := k H' c
theorem viaS {P : L2.St → Hp → Prop} {G : L2.St → Hp → Prop} {σ : L2.St} {H' : Hp} (c : P σ H') (k : ∀ σ H', P σ H' → G σ H') : G σ H' := k σ H' c
/-- the bag within a draw -/
def DSt (H : Hp) (b L : Addr) (ns : List Int) (n : Int) (many : Int) (σ : L2.St) (H1 : Hp) : Prop := ∃ (x y : Option V) (i c m : Int), σ = [some (.ref b), some (.int many), x, y] ∧ H1 b = some (.lst [.ref L, .int i, .int c, .int m, .int n]) ∧ H1 L = some (.lst (ns.map V.int)) ∧ 0 ≤ i ∧ 0 ≤ c ∧ 0 ≤ m ∧ m < 2147483647 ∧ Kp b H H1
theorem mem_ge {ns : List Int} {i : Int} (h : 0 ≤ i) (hl : i < ((ns.map V.int).length : Nat)) : ∃ z, atI (ns.map V.int) i = some (.int z) := by
  obtain ⟨j, rfl⟩ := Int.eq_ofNat_of_zero_le h
  have hj : j < ns.length := by
    rw [List.length_map] at hl
    omega
  refine ⟨ns[j], atI_nat ?_⟩
  rw [List.getElem?_map, List.getElem?_eq_getElem hj]
  rfl
theorem nxt {D : Ends} {σ : L2.St} {H : Hp} (h : D.nx σ H) : tNext D σ H := h
theorem seq_cut {t u : TS} {D : Ends} {σ : L2.St} {H : Hp} (P : L2.St → Hp → Prop) (tail : ∀ σ' H', P σ' H' → u D σ' H') (h : (∀ σ' H', P σ' H' → u D σ' H') → tSeq t u D σ H) : tSeq t u D σ H := h tail
theorem ok_draw (F : Fun K "_law_draw" "_law_draw" s_law_draw f fd) (T : Txt K mg C CB) : FnOk P w K mg base CX0 1 f fd ["bag", "many"] spDraw := by
  refine F.ok sc_law_draw (fun vs H Q E h => ?_) (fun cdv A outer s H vs Q E hr h => ?_)
  · obtain ⟨b, n, many, rfl, _⟩ := h
    rfl
  · obtain ⟨b, n, many, rfl, B, hn, hm0, hm1, k⟩ := h
    obtain ⟨L, ns, i, cell, mixed, cnt, h1, h2, h3, h4, h5, h6, h7, h8⟩ := B.ex
    have nd := sc_law_draw.nd
    have neLb : L ≠ b := fun e => by
      rw [e, h1] at h2
      have z := congrArg List.head? (HO.lst.inj (Option.some.inj h2))
      cases ns <;> cases z
    have kL : ∀ {H' : Hp} {o : HO}, H' L = some (.lst (ns.map V.int)) → (upd H' b o) L = some (.lst (ns.map V.int)) := fun e => (upd_ne neLb).trans e
    refine ⟨_, (pss_cons (ps_asg (pe_op op_add (pe_ix ix_list (pv 0) pe_int (fun _ _ => rfl)) pe_int) (pg_sub (pv 0) pe_int set_list))
    (pss_cons (ps_if (PW.pt (pw_and (pt_cmpR op_eq (pe_ix ix_list (pv 0) pe_int (fun _ _ => rfl)) pe_int (nomark _)) (pw_and1 (pt_cmpR op_lt (pe_ix ix_list (pv 0) pe_int (fun _ _ => rfl)) (pe_callB call_len rfl T.m_len (by decide +kernel) (pa_cons (pe_ix ix_list (pv 0) pe_int (fun _ _ => rfl)) pa_nil)) (nomark _)))))
      (pss_cons (ps_set (i := 2) nd rfl (Or.inl rfl) (pe_ix ix_list (pe_ix ix_list (pv 0) pe_int (fun _ _ => rfl)) (pe_ix ix_list (pv 0) pe_int (fun _ _ => rfl)) (fun _ _ => rfl)))
      (pss_cons (ps_asg (pe_op op_add (pe_ix ix_list (pv 0) pe_int (fun _ _ => rfl)) pe_int) (pg_sub (pv 0) pe_int set_list))
      (pss_one (ps_if (pt_cmpR op_ge (pv 2) (pe_op op_pow pe_int pe_int) (nomark _))
        (pss_one (ps_asg (pv 2) (pg_sub (pv 0) pe_int set_list)))
        (pss_one (ps_asg (pe_op op_mod (pe_callTy call_int1 rfl T.m_int (by decide +kernel) (pa_cons (pe_op op_add (pe_op op_add (pe_op op_mul (pe_ix ix_list (pv 0) pe_int (fun _ _ => rfl)) pe_int) (pe_op op_mul (pe_op op_mod (pe_callTy call_int1 rfl T.m_int (by decide +kernel) (pa_cons (pv 2) pa_nil)) pe_int) pe_int)) (pe_ix ix_list (pv 0) pe_int (fun _ _ => rfl))) pa_nil)) pe_int) (pg_sub (pv 0) pe_int set_list)))))))
      pss_nil)
    (pss_cons (ps_if (pt_cmpR op_gt (pe_ix ix_list (pv 0) pe_int (fun _ _ => rfl)) pe_int (nomark _))
      (pss_cons (ps_set (i := 3) nd rfl (Or.inl rfl) (pe_op op_mod (pe_callTy call_int1 rfl T.m_int (by decide +kernel) (pa_cons (pe_ix ix_list (pv 0) pe_int (fun _ _ => rfl)) pa_nil)) (pv 1)))
      (pss_cons (ps_asg (pe_op op_fdiv (pe_ix ix_list (pv 0) pe_int (fun _ _ => rfl)) (pv 1)) (pg_sub (pv 0) pe_int set_list))
      (pss_one (ps_ret (pv 3)))))
      pss_nil)
    (pss_cons (ps_asg (pe_op op_mod (pe_callTy call_int1 rfl T.m_int (by decide +kernel) (pa_cons (pe_op op_add (pe_op op_add (pe_op op_pow (pe_op op_add (pe_ix ix_list (pv 0) pe_int (fun _ _ => rfl)) (pe_op op_mul pe_int (pe_ix ix_list (pv 0) pe_int (fun _ _ => rfl)))) pe_int) (pe_op op_mul (pe_ix ix_list (pv 0) pe_int (fun _ _ => rfl)) pe_int)) pe_int) pa_nil)) pe_int) (pg_sub (pv 0) pe_int set_list))
    (pss_one (ps_ret (pe_op op_mod (pe_callTy call_int1 rfl T.m_int (by decide +kernel) (pa_cons (pe_op op_add (pe_op op_fdiv (pe_ix ix_list (pv 0) pe_int (fun _ _ => rfl)) pe_int) (pe_op op_mul (pe_op op_mod (pe_callTy call_int1 rfl T.m_int (by decide +kernel) (pa_cons (pe_ix ix_list (pv 0) pe_int (fun _ _ => rfl)) pa_nil)) pe_int) pe_int)) pa_nil)) (pv 1)))))))), ?_⟩
    refine ⟨_, rfl, b, _, _, _, rfl, rfl, SqL.of h1, rfl, _, _, rfl, rfl, _, rfl, b, _, _, 4, rfl, rfl, h1, rfl, ?_⟩
    with_reducible conv => whnf
    refine seq_cut (DSt H b L ns (cnt + 1) many) ?_ fun tail => ?_
    · rintro σ H1 ⟨x, y, i, c, m, rfl, g1, g2, g3, g4, g5, g6, g7⟩
      have fin : ∀ (H2 : Hp) (i c m : Int), H2 b = some (.lst [.ref L, .int i, .int c, .int m, .int (cnt + 1)]) → H2 L = some (.lst (ns.map V.int)) → 0 ≤ i → 0 ≤ c → 0 ≤ m → m < 2147483647 → Kp b H H2 → ∀ r, 0 ≤ r → r < many → Q (.int r) H2 :=
        fun H2 i c m a1 a2 a3 a4 a5 a6 a7 r r1 r2 => k r H2 r1 r2 a7 ⟨L, ns, i, c, m, cnt + 1, a1, a2, a3, a4, a5, a6, by omega, by omega⟩ fun L' r' e => by
          have z := HO.lst.inj (Option.some.inj (h1.symm.trans e))
          obtain ⟨z1, z2⟩ := List.cons.inj z
          cases z1
          exact ⟨_, a1⟩
      refine ⟨_, rfl, b, _, _, _, rfl, rfl, SqL.of g1, rfl, _, _, rfl, rfl, _, rfl, ?_⟩
      refine ite2 (fun hc0 => ?_) (fun hc0 => ?_)
      · refine ⟨_, rfl, b, _, _, _, rfl, rfl, SqL.of g1, rfl, .inl ⟨_, rfl, _, rfl, _, _, rfl, rfl, hm0, ?_⟩⟩
        refine ⟨_, rfl, b, _, _, _, rfl, rfl, SqL.of g1, rfl, _, rfl, _, _, rfl, rfl, ⟨hm0, hm1⟩, _, rfl, b, _, _, 2, rfl, rfl, g1, rfl, ?_⟩
        refine ⟨_, rfl, ?_⟩
        exact fin _ i _ m upd_same (kL g2) g3 (Int.ediv_nonneg g4 (by omega)) g5 g6 (g7.trans Kp.put) _ (emod_lt c hm0).1 (emod_lt c hm0).2
      · refine ⟨_, rfl, b, _, _, _, rfl, rfl, SqL.of g1, rfl, _, rfl, b, _, _, _, rfl, rfl, SqL.of g1, rfl, _, _, rfl, rfl, .inl ⟨by decide, by decide⟩, _, _, rfl, rfl, _, _, rfl, rfl, ⟨by decide, by decide, ?_⟩, ?_⟩
        · omega
        refine ⟨_, rfl, b, _, _, _, rfl, rfl, SqL.of g1, rfl, _, _, rfl, rfl, .inr ⟨by decide, by decide⟩, _, _, rfl, rfl, _, _, rfl, rfl, .inl ⟨_, rfl, _, _, rfl, rfl, (by show (0 : Int) < 2147483647; decide), _, rfl, b, _, _, 3, rfl, rfl, g1, rfl, ?_⟩⟩
        refine ⟨_, rfl, b, _, _, _, rfl, rfl, SqL.of upd_same, rfl, _, _, rfl, rfl, ⟨by decide, by decide⟩, _, rfl, b, _, _, _, rfl, rfl, SqL.of upd_same, rfl, .inl ⟨_, rfl, _, _, rfl, rfl, (by show (0 : Int) < 7919; decide), _, _, rfl, rfl, .inr ⟨by decide, by decide⟩, _, _, rfl, rfl, .inl ⟨_, rfl, _, rfl, _, _, rfl, rfl, hm0, ?_⟩⟩⟩
        exact fin _ i c _ upd_same (kL g2) g3 g4 (emod_lt _ (by decide)).1 (emod_lt _ (by decide)).2 (g7.trans Kp.put) _ (emod_lt _ hm0).1 (emod_lt _ hm0).2
    refine ⟨_, rfl, b, _, _, _, rfl, rfl, SqL.of upd_same, rfl, rfl, _, rfl, ?_⟩
    refine ite2 (fun hc0 => ?_) (fun hc0 => ?_)
    · refine ⟨_, rfl, b, _, _, _, rfl, rfl, SqL.of upd_same, rfl, _, rfl, b, _, _, _, rfl, rfl, SqL.of upd_same, rfl, _, _, rfl, .inl ⟨_, SqL.of (kL h2), rfl⟩, _, _, rfl, rfl, _, rfl, ?_⟩
      refine ite2 (fun hc1 => ?_) (fun hc1 => ?_)
      · have hc2 := of_decide_eq_true hc1
        obtain ⟨z, hz⟩ := mem_ge h3 hc2
        refine ⟨_, rfl, b, _, _, _, rfl, rfl, SqL.of upd_same, rfl, _, rfl, b, _, _, _, rfl, rfl, SqL.of upd_same, rfl, L, _, _, _, rfl, rfl, SqL.of (kL h2), hz, ?_⟩
        refine ⟨_, rfl, b, _, _, _, rfl, rfl, SqL.of upd_same, rfl, _, _, rfl, rfl, _, rfl, b, _, _, 1, rfl, rfl, upd_same, rfl, ?_⟩
        refine ⟨_, rfl, _, _, rfl, rfl, ⟨by decide, by decide, by decide⟩, _, _, rfl, rfl, _, rfl, ?_⟩
        refine ite2 (fun hc3 => ?_) (fun hc3 => ?_)
        · have hz0 := of_decide_eq_true hc3
          refine ⟨_, rfl, _, rfl, b, _, _, 2, rfl, rfl, upd_same, rfl, ?_⟩
          with_reducible conv => whnf
          refine tail _ _ ?_
          exact ⟨_, _, i + 1, z, mixed, rfl, upd_same, kL (kL (kL h2)), by omega, Int.le_trans (by decide) hz0, h5, h6, (Kp.put.trans Kp.put).trans Kp.put⟩
        · refine ⟨_, rfl, b, _, _, _, rfl, rfl, SqL.of upd_same, rfl, _, _, rfl, rfl, .inr ⟨by decide, by decide⟩, _, rfl, .inl ⟨_, rfl, _, _, rfl, rfl, (by show (0 : Int) < 2147483587; decide), _, _, rfl, rfl, .inr ⟨by decide, by decide⟩, _, _, rfl, rfl,
            _, rfl, b, _, _, _, rfl, rfl, SqL.of upd_same, rfl, _, _, rfl, rfl, .inl ⟨_, rfl, _, _, rfl, rfl, (by show (0 : Int) < 2147483647; decide), _, rfl, b, _, _, 3, rfl, rfl, upd_same, rfl, ?_⟩⟩⟩
          with_reducible conv => whnf
          refine tail _ _ ?_
          exact ⟨_, _, i + 1, cell, _, rfl, upd_same, kL (kL (kL h2)), by omega, h4, (emod_lt _ (by decide)).1, (emod_lt _ (by decide)).2, (Kp.put.trans Kp.put).trans Kp.put⟩
      · refine nxt ?_
        with_reducible conv => whnf
        refine tail _ _ ?_
        exact ⟨_, _, i, cell, mixed, rfl, upd_same, kL h2, h3, h4, h5, h6, Kp.put⟩
    · refine iteF ?_
      refine nxt ?_
      with_reducible conv => whnf
      refine tail _ _ ?_
      exact ⟨_, _, i, cell, mixed, rfl, upd_same, kL h2, h3, h4, h5, h6, Kp.put⟩
end
end K40
/-! part B40 -/
set_option Elab.async false
set_option linter.all false
set_option maxRecDepth 100000
set_option maxHeartbeats 4000000
namespace K40
open PySem L2 GX
def spBag (K : PySem.W.Frag) : Sp := fun vs H Q _ => ∃ (a : Addr) (ns : List Int) (salt : Int), vs = [.ref a, .int salt] ∧ SqL K H a (ns.map V.int) ∧ 0 ≤ salt ∧ salt < 1000 ∧ ∀ b H', Same H H' → H b = none → BagAt H' b 0 → Q (.ref b) H'
theorem cut_ints (ns : List Int) (lo hi : Option Int) : ∃ ms : List Int, cutV (ns.map V.int) lo hi = ms.map V.int := by
  unfold cutV
  exact ⟨_, by rw [← List.map_drop, ← List.map_take]⟩
def spOf (K : PySem.W.Frag) : Sp := fun vs H Q _ => ∃ (b p : Addr) (n : Nat) (xs : List V), vs = [.ref b, .ref p] ∧ BagAt H b n ∧ n < 1000000000 ∧ H p = some (.lst xs) ∧ p ≠ b ∧ 0 < xs.length ∧ xs.length < 1000 ∧
  ∀ (x : V) (H' : Hp), x ∈ xs → Kp b H H' → BagAt H' b (n + 1) → Hd b H H' → Q x H'
def spSize : Sp := fun vs H Q _ => ∃ (b : Addr) (n : Nat), vs = [.ref b] ∧ BagAt H b n ∧ n < 100000000 ∧ ∀ (r : Int) (H' : Hp), 1 ≤ r → r ≤ 1000 → Kp b H H' → BagAt H' b (n + 2) → Q (.int r) H'
theorem Kp.of_same {b p : Addr} {H H' : Hp} {o : HO} (n : H p = none) (k : Kp b (upd H p o) H') : Kp b H H' := fun c u e nb => k c u (by rw [upd_ne (ne_of_none e n)]; exact e) nb
section
variable {P : Program} {w : World} {K : PySem.W.Frag} {mg : Str → Option Value} {base : Heap} {C CB : Addr} {f : Addr} {fd : FuncData}
theorem ok_bag (F : Fun K "_law_bag" "_law_bag" s_law_bag f fd) (T : Txt K mg C CB) : FnOk P w K mg base CX0 1 f fd ["script", "salt"] (spBag K) := by
  refine F.ok sc_law_bag (fun vs H Q E h => ?_) (fun cdv A outer s H vs Q E hr h => ?_)
  · obtain ⟨a, ns, salt, rfl, _⟩ := h
    rfl
  · obtain ⟨a, ns, salt, rfl, hS, hs0, hs1, k⟩ := h
    have nd := sc_law_bag.nd
    obtain ⟨ms, hms⟩ := cut_ints ns none (some 63)
    refine ⟨_, (pss_cons (ps_set (i := 2) nd rfl (Or.inl rfl) (pe_op op_add pe_int (pv 1)))
    (pss_cons (ps_for PassesOwn.never rfl (pi_list (pe_slice sl_list (pv 0) po_none (po_some pe_int))) (pg_name (i := 3) nd rfl (Or.inl rfl))
      (pss_one (ps_set (i := 2) nd rfl (Or.inl rfl) (pe_op op_mod (pe_callTy call_int1 rfl T.m_int (by decide +kernel) (pa_cons (pe_op op_add (pe_op op_add (pe_op op_mul (pv 2) pe_int) (pe_op op_mod (pe_callTy call_int1 rfl T.m_int (by decide +kernel) (pa_cons (pv 3) pa_nil)) pe_int)) pe_int) pa_nil)) pe_int))))
    (pss_one (ps_ret (pe_lst (pa_cons (pe_callTy call_list_of rfl T.m_list (by decide +kernel) (pa_cons (pe_slice sl_list (pv 0) po_none (po_some pe_int)) pa_nil)) (pa_cons pe_int (pa_cons pe_int (pa_cons (pv 2) (pa_cons pe_int pa_nil)))))))))), ?_⟩
    refine ⟨_, rfl, _, _, rfl, rfl, ?_⟩
    refine ⟨_, rfl, _, rfl, a, _, rfl, hS, fun p np => ⟨p, rfl, ⟨_, SqL.of upd_same⟩, ?_⟩⟩
    have sp : Same H (upd H p (.lst (cutV (ns.map V.int) none (some 63)))) := Same.put np
    refine for_list (K := K) (a := p) (xs := ms.map V.int) (fun i σ H2 => ∃ (m : Int) (v : Option V), σ = [some (.ref a), some (.int salt), some (.int m), v] ∧ 0 ≤ m ∧ m < 2147483647 ∧ H2 = upd H p (.lst (ms.map V.int)))
      ⟨_, _, rfl, by omega, by omega, by rw [hms]⟩ (fun i σ H2 _ ⟨_, _, _, _, _, e⟩ => by rw [e]; exact SqL.of upd_same) ?_ ?_
    · rintro i y σ H2 hi ⟨m, v, rfl, h0, h1, rfl⟩
      obtain ⟨z, rfl⟩ : ∃ z, y = V.int z := by
        rw [List.getElem?_map] at hi
        cases e : ms[i]? with
        | none => rw [e] at hi; cases hi
        | some z => rw [e] at hi; exact ⟨z, (Option.some.inj hi).symm⟩
      refine ⟨_, rfl, _, _, rfl, rfl, .inr ⟨by decide, by decide⟩, _, rfl, .inl ⟨_, rfl, _, _, rfl, rfl, (by show (0 : Int) < 2147483587; decide), _, _, rfl, rfl, _, _, rfl, rfl, .inl ⟨_, rfl, _, _, rfl, rfl, (by show (0 : Int) < 2147483647; decide), ?_⟩⟩⟩
      exact ⟨_, _, rfl, (emod_lt _ (by decide)).1, (emod_lt _ (by decide)).2, rfl⟩
    · rintro σ H2 ⟨m, v, rfl, h0, h1, rfl⟩
      have sp2 : Same H (upd H p (.lst (ms.map V.int))) := Same.put np
      refine ⟨_, rfl, _, rfl, a, _, rfl, sp2.seq hS, fun q nq => ⟨q, _, rfl, .inl (SqL.of upd_same), fun L nL => ⟨_, rfl, ?_⟩⟩⟩
      have s3 : Same (upd H p (.lst (ms.map V.int))) _ := (Same.put (o := .lst (cutV (ns.map V.int) none (some 63))) nq).trans (Same.put (o := .lst (cutV (ns.map V.int) none (some 63))) nL)
      refine ⟨by show 5 ≤ sizeLine; decide, fun b nb => ?_⟩
      refine k b _ (sp2.trans (s3.trans (Same.put nb))) ((sp2.trans s3).free nb) ⟨L, ms, 0, 0, m, 0, upd_same, ?_, by decide, by decide, h0, h1, by decide, by decide⟩
      rw [upd_ne (ne_of_none upd_same nb), upd_same, hms]
theorem ok_of (F : Fun K "_law_of" "_law_of" s_law_of f fd) (T : Txt K mg C CB) (g_law_draw : CalN P w K mg base 1 "_law_draw" 2 [] (sk spDraw)) : FnOk P w K mg base CX0 2 f fd ["bag", "things"] (spOf K) := by
  refine F.ok sc_law_of (fun vs H Q E h => ?_) (fun cdv A outer s H vs Q E hr h => ?_)
  · obtain ⟨b, p, n, xs, rfl, _⟩ := h
    rfl
  · obtain ⟨b, p, n, xs, rfl, B, hn, hp, npb, hl0, hl1, k⟩ := h
    have nd := sc_law_of.nd
    refine ⟨_, (pss_one (ps_ret (pe_ix ix_list (pv 1) (pn_f g_law_draw hr (by decide) takes0N rfl (pa_cons (pv 0) (pa_cons (pe_callB call_len rfl T.m_len (by decide +kernel) (pa_cons (pv 1) pa_nil)) pa_nil))) (fun _ _ => rfl)))), ?_⟩
    refine ⟨_, rfl, _, rfl, _, rfl, _, _, rfl, .inl ⟨_, SqL.of hp, rfl⟩, rfl, b, n, _, rfl, B, hn, by omega, by omega, fun r H' r0 r1 kp B' hd' => ?_⟩
    obtain ⟨j, rfl⟩ := Int.eq_ofNat_of_zero_le r0
    have hj : j < xs.length := by omega
    exact ⟨p, _, _, _, rfl, rfl, SqL.of (kp _ _ hp npb), atI_nat (List.getElem?_eq_getElem hj), k _ _ (List.getElem_mem hj) kp B' hd'⟩
theorem ok_size (F : Fun K "_law_size" "_law_size" s_law_size f fd) (T : Txt K mg C CB) (g_law_draw : CalN P w K mg base 1 "_law_draw" 2 [] (sk spDraw)) (g_law_of : CalN P w K mg base 2 "_law_of" 2 [] (sk (spOf K))) : FnOk P w K mg base CX0 3 f fd ["bag"] spSize := by
  refine F.ok sc_law_size (fun vs H Q E h => ?_) (fun cdv A outer s H vs Q E hr h => ?_)
  · obtain ⟨b, n, rfl, _⟩ := h
    rfl
  · obtain ⟨b, n, rfl, B, hn, k⟩ := h
    have nd := sc_law_size.nd
    refine ⟨_, (pss_one (ps_ret (pe_op op_add pe_int (pn_f g_law_draw hr (by decide) takes0N rfl (pa_cons (pv 0) (pa_cons (pn_f g_law_of hr (by decide) takes0N rfl (pa_cons (pv 0) (pa_cons (pe_lst (pa_cons pe_int (pa_cons pe_int (pa_cons pe_int (pa_cons pe_int (pa_cons pe_int (pa_cons pe_int (pa_cons pe_int pa_nil)))))))) pa_nil))) pa_nil)))))), ?_⟩
    refine ⟨_, rfl, _, rfl, by show 7 ≤ sizeLine; decide, fun p np => ⟨rfl, b, p, n, _, rfl, B.same (Same.put np), by omega, upd_same, (B.ne np).symm, by decide, by decide, fun x H' hx kp B' _ => ?_⟩⟩
    obtain ⟨m, rfl, m0, m1⟩ : ∃ m : Int, x = .int m ∧ 1 ≤ m ∧ m ≤ 1000 := by
      simp only [List.mem_cons, List.mem_nil_iff, or_false] at hx
      rcases hx with rfl | rfl | rfl | rfl | rfl | rfl | rfl <;> exact ⟨_, rfl, by decide, by decide⟩
    refine ⟨rfl, b, n + 1, m, rfl, B', by omega, by omega, by omega, fun r H2 r0 r1 kp2 B2 _ => ⟨_, _, rfl, rfl, ?_⟩⟩
    exact k _ _ (by omega) (by omega) ((Kp.of_same np kp).trans kp2) B2
end
end K40
/-! part C40 -/
set_option Elab.async false
set_option linter.all false
set_option maxRecDepth 100000
set_option maxHeartbeats 4000000
namespace GX
open PySem PySem.Spec PyProof.Rows L2
/-! comprehensions over zip -/
theorem lc_zipL {K : PySem.W.Frag} {a b : Addr} {xs ys : List V} {g : TG} {tt : TT} {te : TE} {vs : List Nat} {σ : L2.St} {H1 : Hp} {D : Addr} {Qd : Hp → Prop} (he : xs.length = ys.length) (Pv : Nat → Hp → Prop) (h0 : Pv 0 (upd H1 D (.lst []))) (hl : ∀ i H, i ≤ xs.length → Pv i H → SqL K H a xs ∧ SqL K H b ys)
    (hs : ∀ i x y T H, xs[i]? = some x → ys[i]? = some y → H T = none → Pv i H → g (.ref T) (wipe σ vs) (upd H T (.tup [x, y])) fun σ2 H2 => wipe σ2 vs = wipe σ vs ∧ tt σ2 H2 fun b H3 =>
      if b = true then te σ2 H3 fun y H4 => ∃ acc, H4 D = some (.lst acc) ∧ acc.length < sizeLine ∧ Pv (i + 1) (upd H4 D (.lst (acc ++ [y]))) else Pv (i + 1) H3) (hd : ∀ H, Pv xs.length H → Qd H) :
    ∃ W : Nat → Nat → Hp → Prop, (∃ m, W 0 m (upd H1 D (.lst []))) ∧ ∀ i m H, W i m H →
      ((Itz K a b).stop i H ∧ Qd H) ∨ ((Itz K a b).go i H ∧ ∃ Nx : Hp → Prop, (∀ H', Nx H' → ∃ m', m' < m ∧ W (i + 1) m' H') ∧ ∀ x H', (Itz K a b).yld i H x H' → g x (wipe σ vs) H' fun σ2 H2 => wipe σ2 vs = wipe σ vs ∧ tt σ2 H2 fun b H3 =>
        if b = true then te σ2 H3 fun y H4 => ∃ acc, H4 D = some (.lst acc) ∧ acc.length < sizeLine ∧ Nx (upd H4 D (.lst (acc ++ [y]))) else Nx H3) := by
  refine ⟨fun i m H => m = xs.length - i ∧ i ≤ xs.length ∧ Pv i H, ⟨xs.length, by simp, Nat.zero_le _, h0⟩, ?_⟩
  rintro i m H ⟨rfl, hi, p⟩
  obtain ⟨qx, qy⟩ := hl i H hi p
  by_cases hlt : i < xs.length
  · have hlt2 : i < ys.length := by omega
    refine .inr ⟨⟨xs, ys, _, _, qx, qy, List.getElem?_eq_getElem hlt, List.getElem?_eq_getElem hlt2⟩, Pv (i + 1), fun H' p' => ⟨xs.length - (i + 1), by omega, rfl, hlt, p'⟩, fun x H' y => ?_⟩
    obtain ⟨T, x', y', rfl, hT, rfl, f1, f2⟩ := y
    exact hs i x' y' T H (f1 xs qx) (f2 ys qy) hT p
  · have e : i = xs.length := by omega
    subst e
    exact .inl ⟨⟨xs, ys, qx, qy, Or.inl (Nat.le_refl _)⟩, hd H p⟩
theorem lc_zipT {K : PySem.W.Frag} {a b : Addr} {xs ys : List V} {g : TG} {tt : TT} {te : TE} {vs : List Nat} {σ : L2.St} {H1 : Hp} {D : Addr} {Qd : Hp → Prop} (he : xs.length = ys.length) (Pv : Nat → Hp → Prop) (h0 : Pv 0 (upd H1 D (.lst []))) (hl : ∀ i H, i ≤ xs.length → Pv i H → SqT K H a xs ∧ SqT K H b ys)
    (hs : ∀ i x y T H, xs[i]? = some x → ys[i]? = some y → H T = none → Pv i H → g (.ref T) (wipe σ vs) (upd H T (.tup [x, y])) fun σ2 H2 => wipe σ2 vs = wipe σ vs ∧ tt σ2 H2 fun b H3 =>
      if b = true then te σ2 H3 fun y H4 => ∃ acc, H4 D = some (.lst acc) ∧ acc.length < sizeLine ∧ Pv (i + 1) (upd H4 D (.lst (acc ++ [y]))) else Pv (i + 1) H3) (hd : ∀ H, Pv xs.length H → Qd H) :
    ∃ W : Nat → Nat → Hp → Prop, (∃ m, W 0 m (upd H1 D (.lst []))) ∧ ∀ i m H, W i m H →
      ((RZ.ItzT K a b).stop i H ∧ Qd H) ∨ ((RZ.ItzT K a b).go i H ∧ ∃ Nx : Hp → Prop, (∀ H', Nx H' → ∃ m', m' < m ∧ W (i + 1) m' H') ∧ ∀ x H', (RZ.ItzT K a b).yld i H x H' → g x (wipe σ vs) H' fun σ2 H2 => wipe σ2 vs = wipe σ vs ∧ tt σ2 H2 fun b H3 =>
        if b = true then te σ2 H3 fun y H4 => ∃ acc, H4 D = some (.lst acc) ∧ acc.length < sizeLine ∧ Nx (upd H4 D (.lst (acc ++ [y]))) else Nx H3) := by
  refine ⟨fun i m H => m = xs.length - i ∧ i ≤ xs.length ∧ Pv i H, ⟨xs.length, by simp, Nat.zero_le _, h0⟩, ?_⟩
  rintro i m H ⟨rfl, hi, p⟩
  obtain ⟨qx, qy⟩ := hl i H hi p
  by_cases hlt : i < xs.length
  · have hlt2 : i < ys.length := by omega
    refine .inr ⟨⟨xs, ys, _, _, qx, qy, List.getElem?_eq_getElem hlt, List.getElem?_eq_getElem hlt2⟩, Pv (i + 1), fun H' p' => ⟨xs.length - (i + 1), by omega, rfl, hlt, p'⟩, fun x H' y => ?_⟩
    obtain ⟨T, x', y', rfl, hT, rfl, f1, f2⟩ := y
    exact hs i x' y' T H (f1 xs qx) (f2 ys qy) hT p
  · have e : i = xs.length := by omega
    subst e
    exact .inl ⟨⟨xs, ys, qx, qy, Or.inl (Nat.le_refl _)⟩, hd H p⟩
theorem tyes {σ : L2.St} {H : Hp} {Q : Bool → Hp → Prop} (h : Q true H) : tYes σ H Q := h
theorem tyL {K : PySem.W.Frag} {H : Hp} {a : Addr} {xs : List V} (h : SqL K H a xs) : TyX K H (.ref a) (.type "list") := by
  rcases h with (h | ⟨o, h⟩) | ⟨o, its, n, h, hc, _⟩
  · exact .base (.lst h)
  · exact .base (.frz h)
  · exact .kList h hc
theorem tyT {K : PySem.W.Frag} {H : Hp} {a : Addr} {xs : List V} (h : SqT K H a xs) : TyX K H (.ref a) (.type "tuple") := by
  rcases h with (h | ⟨o, h⟩) | ⟨o, its, n, h, hc, _⟩
  · exact .base (.tup h)
  · exact .fTuple h
  · exact .kTuple h hc
theorem cal_no {P : Program} {w : World} {K : PySem.W.Frag} {mg : Str → Option Value} {base : Heap} {x qual : Str} {st : Stmt} {f : Addr} {fd : FuncData} {ps : List Str} (F : Fun K x qual st f fd) (hm : mg x = some (.ref f)) (b : Binds K fd ps []) : CalN P w K mg base 0 x ps.length [] (sk fun _ _ _ _ => False) :=
  ⟨f, hm, F.kp, calK_of (sp := fun _ _ _ _ => False) ⟨fun _ _ _ _ h => h.elim, fun _ _ _ _ _ _ _ _ _ _ _ _ _ h => h.elim⟩ b rfl⟩
end GX
namespace K40
open PySem L2 GX
theorem isLT {K : PySem.W.Frag} {T : String} {b : Bool} (h1 : kitB T "list" = some b) (h2 : b = false → kitB T "tuple" = some false) : PySem.W.kitAny K (.type T) [.type "list", .type "tuple"] = some b :=
  kitAny_cons (b := b) (kit_ty h1) (fun e => by rw [e]; exact kitAny_cons (b := false) (kit_ty (h2 e)) (fun _ => kitAny_nil) (fun z => by cases z)) (fun e => e)
theorem isLT2 {K : PySem.W.Frag} : PySem.W.kitAny K (.type "tuple") [.type "list", .type "tuple"] = some true :=
  kitAny_cons (b := false) (kit_ty (by decide +kernel)) (fun _ => kitAny_cons (b := true) (kit_ty (by decide +kernel)) (fun z => by cases z) (fun _ => rfl)) (fun z => by cases z)
/-- two values that are alike, at most k - 1 deep -/
def Lk (K : PySem.W.Frag) : Nat → Hp → V → V → Prop
  | 0, _, _, _ => False
  | k + 1, H, x, y => (x = y ∧ ((∃ b, x = .bl b) ∨ (∃ i, x = .int i) ∨ ∃ z, x = .str z)) ∨
      ∃ (a b : Addr) (xs ys : List V), x = .ref a ∧ y = .ref b ∧ ((SqL K H a xs ∧ SqL K H b ys) ∨ (SqT K H a xs ∧ SqT K H b ys)) ∧ xs.length = ys.length ∧ xs.length ≤ 1000000 ∧ ∀ (i : Nat) (x' y' : V), xs[i]? = some x' → ys[i]? = some y' → Lk K k H x' y'
theorem Lk.same {K : PySem.W.Frag} : ∀ {k : Nat} {H H' : Hp} {x y : V}, Lk K k H x y → Same H H' → Lk K k H' x y
  | 0, _, _, _, _, h, _ => False.elim h
  | k + 1, H, H', x, y, h, s => by
    rcases h with h | ⟨a, b, xs, ys, e1, e2, h3, h4, h5, h6⟩
    · exact .inl h
    · refine .inr ⟨a, b, xs, ys, e1, e2, ?_, h4, h5, fun i x' y' hx hy => Lk.same (h6 i x' y' hx hy) s⟩
      rcases h3 with ⟨q1, q2⟩ | ⟨q1, q2⟩
      · exact .inl ⟨s.seq q1, s.seq q2⟩
      · exact .inr ⟨GX.Same.sqT s q1, GX.Same.sqT s q2⟩
def spLike (K : PySem.W.Frag) (k : Nat) : Sp := fun vs H Q _ => ∃ x y : V, vs = [x, y] ∧ Lk K k H x y ∧ ∀ H', Same H H' → Q (.bl true) H'
section
variable {P : Program} {w : World} {K : PySem.W.Frag} {mg : Str → Option Value} {base : Heap} {C CB : Addr} {f : Addr} {fd : FuncData}
theorem ok_like (F : Fun K "_law_like" "_law_like" s_law_like f fd) (T : Txt K mg C CB) {k : Nat} (g_law_like : CalN P w K mg base k "_law_like" 2 [] (sk (spLike K k))) : FnOk P w K mg base CX0 (k + 1) f fd ["told", "due"] (spLike K (k + 1)) := by
  refine F.ok sc_law_like (fun vs H Q E h => ?_) (fun cdv A outer s H vs Q E hr h => ?_)
  · obtain ⟨x, y, rfl, _⟩ := h
    rfl
  · obtain ⟨x, y, rfl, hL, go⟩ := h
    have nd := sc_law_like.nd
    refine ⟨_, (pss_cons (ps_if (pt_val (pe_callB call_isiT rfl T.m_isinstance (by decide +kernel) (pa_cons (pv 1) (pa_cons (pe_tup (pa_cons (pe_bltn (v := .ty "list") (u := .type "list") rfl T.m_list (by decide +kernel) rfl) (pa_cons (pe_bltn (v := .ty "tuple") (u := .type "tuple") rfl T.m_tuple (by decide +kernel) rfl) pa_nil))) pa_nil))))
      (pss_cons (ps_set (i := 2) nd rfl (Or.inl rfl) (pe_ifExp (pt_val (pe_callB call_isi rfl T.m_isinstance (by decide +kernel) (pa_cons (pv 1) (pa_cons (pe_bltn (v := .ty "list") (u := .type "list") rfl T.m_list (by decide +kernel) rfl) pa_nil)))) (pe_callB call_isi rfl T.m_isinstance (by decide +kernel) (pa_cons (pv 0) (pa_cons (pe_bltn (v := .ty "list") (u := .type "list") rfl T.m_list (by decide +kernel) rfl) pa_nil))) (pe_callB call_isi rfl T.m_isinstance (by decide +kernel) (pa_cons (pv 0) (pa_cons (pe_bltn (v := .ty "tuple") (u := .type "tuple") rfl T.m_tuple (by decide +kernel) rfl) pa_nil)))))
      (pss_one (ps_ret (pe_and (pv 2) (pe_and (pe_cmpR op_eq (pe_callB call_len rfl T.m_len (by decide +kernel) (pa_cons (pv 0) pa_nil)) (pe_callB call_len rfl T.m_len (by decide +kernel) (pa_cons (pv 1) pa_nil)) (nomark _)) (pe_one (pe_callB (cr_all rfl) rfl T.m_all (by decide +kernel) (pa_cons (pe_lc (own := [("a", 3), ("b", 4)]) (g := gTup K 2 (gCons (gName 3) (gCons (gName 4) gNil))) (tt := tYes) rfl nd (RZ.pi_zipA rfl T.m_zip (pa_cons (pv 0) (pa_cons (pv 1) pa_nil))) (blkOk_by (own := [("a", 3), ("b", 4)]) (N := ["told", "due", "fits", "a", "b"]) (sc := defScope s_law_like) (by decide +kernel)) (fun _ _ _ _ _ => (pg_tup rfl (pgs_cons (pg_name (i := 3) nd rfl (Or.inl rfl)) (pgs_cons (pg_name (i := 4) nd rfl (Or.inl rfl)) pgs_nil)))) (fun _ _ _ _ _ => pts_nil) (fun _ _ _ _ _ => (pn_f g_law_like hr (Nat.le_refl _) takes0N rfl (pa_cons (pv 3) (pa_cons (pv 4) pa_nil))))) pa_nil))))))))
      pss_nil)
    (pss_cons (ps_if (pt_cmpR op_isN (pv 1) pe_non (nomark _))
      (pss_one (ps_ret (pe_cmpR op_isN (pv 0) pe_non (nomark _))))
      pss_nil)
    (pss_cons (ps_if (pt_val (pe_callB call_isi rfl T.m_isinstance (by decide +kernel) (pa_cons (pv 1) (pa_cons (pe_bltn (v := .ty "bool") (u := .type "bool") rfl T.m_bool (by decide +kernel) rfl) pa_nil))))
      (pss_one (ps_ret (pe_and (pe_callB call_isi rfl T.m_isinstance (by decide +kernel) (pa_cons (pv 0) (pa_cons (pe_bltn (v := .ty "bool") (u := .type "bool") rfl T.m_bool (by decide +kernel) rfl) pa_nil))) (pe_one (pe_cmpR op_eq (pv 0) (pv 1) (nomark _))))))
      pss_nil)
    (pss_cons (ps_if (pt_val (pe_callB call_isi rfl T.m_isinstance (by decide +kernel) (pa_cons (pv 1) (pa_cons (pe_bltn (v := .ty "int") (u := .type "int") rfl T.m_int (by decide +kernel) rfl) pa_nil))))
      (pss_one (ps_ret (pe_and (pe_callB call_isi rfl T.m_isinstance (by decide +kernel) (pa_cons (pv 0) (pa_cons (pe_bltn (v := .ty "int") (u := .type "int") rfl T.m_int (by decide +kernel) rfl) pa_nil))) (pe_and (pe_not (pe_callB call_isi rfl T.m_isinstance (by decide +kernel) (pa_cons (pv 0) (pa_cons (pe_bltn (v := .ty "bool") (u := .type "bool") rfl T.m_bool (by decide +kernel) rfl) pa_nil)))) (pe_one (pe_cmpR op_eq (pv 0) (pv 1) (nomark _)))))))
      pss_nil)
    (pss_one (ps_ret (pe_and (pe_callB call_isi rfl T.m_isinstance (by decide +kernel) (pa_cons (pv 0) (pa_cons (pe_bltn (v := .ty "str") (u := .type "str") rfl T.m_str (by decide +kernel) rfl) pa_nil))) (pe_one (pe_cmpR op_eq (pv 0) (pv 1) (nomark _)))))))))), ?_⟩
    rcases hL with ⟨rfl, hx⟩ | ⟨a, b, xs, ys, rfl, rfl, hq, hl, hz, hk⟩
    · rcases hx with ⟨c, rfl⟩ | ⟨c, rfl⟩ | ⟨c, rfl⟩
      · refine ⟨_, rfl, by show 2 ≤ sizeLine; decide, fun t nt => ⟨_, t, _, _, _, false, rfl, upd_same, .cons (.ty _) (.cons (.ty _) .nil), .base (.bl c), isLT (by decide +kernel) (fun _ => by decide +kernel), _, rfl, ?_⟩⟩
        refine iteF ?_
        refine ⟨_, rfl, rfl, _, rfl, ?_⟩
        refine ite2 (fun z => absurd (of_decide_eq_true z) (by nofun)) (fun _ => ?_)
        refine ⟨_, rfl, _, _, _, _, true, rfl, .ty _, .base (.bl c), kit_ty (by decide +kernel), _, rfl, ?_⟩
        refine iteT ?_
        refine ⟨_, rfl, _, _, _, _, true, rfl, .ty _, .base (.bl c), kit_ty (by decide +kernel), _, rfl, ?_⟩
        refine iteT ?_
        refine ⟨_, rfl, _, rfl, rfl, ?_⟩
        rw [decide_eq_true rfl]
        exact go _ (Same.put nt)
      · refine ⟨_, rfl, by show 2 ≤ sizeLine; decide, fun t nt => ⟨_, t, _, _, _, false, rfl, upd_same, .cons (.ty _) (.cons (.ty _) .nil), .base (.int c), isLT (by decide +kernel) (fun _ => by decide +kernel), _, rfl, ?_⟩⟩
        refine iteF ?_
        refine ⟨_, rfl, rfl, _, rfl, ?_⟩
        refine ite2 (fun z => absurd (of_decide_eq_true z) (by nofun)) (fun _ => ?_)
        refine ⟨_, rfl, _, _, _, _, false, rfl, .ty _, .base (.int c), kit_ty (by decide +kernel), _, rfl, ?_⟩
        refine iteF ?_
        refine ⟨_, rfl, _, _, _, _, true, rfl, .ty _, .base (.int c), kit_ty (by decide +kernel), _, rfl, ?_⟩
        refine iteT ?_
        refine ⟨_, rfl, _, _, _, _, true, rfl, .ty _, .base (.int c), kit_ty (by decide +kernel), _, rfl, ?_⟩
        refine iteT ?_
        refine ⟨_, rfl, _, _, _, _, false, rfl, .ty _, .base (.int c), kit_ty (by decide +kernel), _, rfl, _, rfl, ?_⟩
        refine iteT ?_
        refine ⟨_, rfl, _, rfl, rfl, ?_⟩
        rw [decide_eq_true rfl]
        exact go _ (Same.put nt)
      · refine ⟨_, rfl, by show 2 ≤ sizeLine; decide, fun t nt => ⟨_, t, _, _, _, false, rfl, upd_same, .cons (.ty _) (.cons (.ty _) .nil), .base (.str c), isLT (by decide +kernel) (fun _ => by decide +kernel), _, rfl, ?_⟩⟩
        refine iteF ?_
        refine ⟨_, rfl, rfl, _, rfl, ?_⟩
        refine ite2 (fun z => absurd (of_decide_eq_true z) (by nofun)) (fun _ => ?_)
        refine ⟨_, rfl, _, _, _, _, false, rfl, .ty _, .base (.str c), kit_ty (by decide +kernel), _, rfl, ?_⟩
        refine iteF ?_
        refine ⟨_, rfl, _, _, _, _, false, rfl, .ty _, .base (.str c), kit_ty (by decide +kernel), _, rfl, ?_⟩
        refine iteF ?_
        refine ⟨_, rfl, _, _, _, _, true, rfl, .ty _, .base (.str c), kit_ty (by decide +kernel), _, rfl, ?_⟩
        refine iteT ?_
        refine ⟨_, rfl, _, rfl, rfl, ?_⟩
        rw [decide_eq_true rfl]
        exact go _ (Same.put nt)
    · rcases hq with ⟨qx, qy⟩ | ⟨qx, qy⟩
      · refine ⟨_, rfl, by show 2 ≤ sizeLine; decide, fun t nt => ⟨_, t, _, _, _, true, rfl, upd_same, .cons (.ty _) (.cons (.ty _) .nil), tyL ((Same.put nt).seq qy), isLT (by decide +kernel) (fun z => by cases z), _, rfl, ?_⟩⟩
        refine iteT ?_
        have st := Same.put (o := .tup [V.ty "list", V.ty "tuple"]) nt
        refine ⟨_, rfl, _, _, _, _, true, rfl, .ty _, tyL (st.seq qy), kit_ty (by decide +kernel), _, rfl, ?_⟩
        refine iteT ?_
        refine ⟨_, rfl, _, _, _, _, true, rfl, .ty _, tyL (st.seq qx), kit_ty (by decide +kernel), ?_⟩
        refine ⟨_, rfl, _, rfl, ?_⟩
        refine iteT ?_
        refine ⟨_, rfl, _, _, rfl, .inl ⟨_, st.seq qx, rfl⟩, _, rfl, _, _, rfl, .inl ⟨_, st.seq qy, rfl⟩, rfl, _, rfl, ?_⟩
        rw [hl, decide_eq_true rfl]
        refine iteT ?_
        refine ⟨_, rfl, _, rfl, a, b, xs, ys, rfl, .inl ⟨st.seq qx, st.seq qy, fun D nD => ?_⟩⟩
        refine lc_zipL (K := K) (a := a) (b := b) (xs := xs) (ys := ys) hl (fun i H' => Same H H' ∧ H' D = some (.lst ((List.replicate i true).map V.bl))) ⟨st.trans (Same.put nD), upd_same⟩ (fun i H' _ ⟨s1, _⟩ => ⟨s1.seq qx, s1.seq qy⟩) ?_ ?_
        · rintro i x y U H' hx hy nU ⟨s1, hD⟩
          have sU : Same H' (upd H' U (.tup [x, y])) := Same.put nU
          refine ⟨U, _, rfl, SqT.of upd_same, rfl, _, _, rfl, _, _, rfl, rfl, rfl, ?_⟩
          refine tyes (iteT ?_)
          refine ⟨_, rfl, _, rfl, rfl, x, y, rfl, (hk i x y hx hy).same (s1.trans sU), fun H4 s4 => ⟨_, s4 _ _ (sU _ _ hD), ?_, ?_, ?_⟩⟩
          · rw [List.length_map, List.length_replicate]
            have := (List.getElem?_eq_some_iff.mp hx).1
            exact Nat.lt_of_lt_of_le (Nat.lt_of_lt_of_le this hz) (by decide)
          · intro c o e
            have nD0 : c ≠ D := ne_of_none e (st.free nD)
            rw [upd_ne nD0]
            exact s4 _ _ (sU _ _ (s1 _ _ e))
          · rw [upd_same]
            have e : List.replicate (i + 1) true = List.replicate i true ++ [true] := List.replicate_succ'
            rw [e, List.map_append]
            rfl
        · rintro H' ⟨s1, hD⟩
          refine ⟨D, _, rfl, SqL.of hD, ?_⟩
          have e : (List.replicate xs.length true).all id = true := by rw [List.all_eq_true]; intro b hb; rw [List.eq_of_mem_replicate hb]; rfl
          rw [e]
          exact go _ s1
      · refine ⟨_, rfl, by show 2 ≤ sizeLine; decide, fun t nt => ⟨_, t, _, _, _, true, rfl, upd_same, .cons (.ty _) (.cons (.ty _) .nil), tyT (GX.Same.sqT (Same.put nt) qy), isLT2, _, rfl, ?_⟩⟩
        refine iteT ?_
        have st := Same.put (o := .tup [V.ty "list", V.ty "tuple"]) nt
        refine ⟨_, rfl, _, _, _, _, false, rfl, .ty _, tyT (GX.Same.sqT st qy), kit_ty (by decide +kernel), _, rfl, ?_⟩
        refine iteF ?_
        refine ⟨_, rfl, _, _, _, _, true, rfl, .ty _, tyT (GX.Same.sqT st qx), kit_ty (by decide +kernel), ?_⟩
        refine ⟨_, rfl, _, rfl, ?_⟩
        refine iteT ?_
        refine ⟨_, rfl, _, _, rfl, .inr ⟨_, GX.Same.sqT st qx, rfl⟩, _, rfl, _, _, rfl, .inr ⟨_, GX.Same.sqT st qy, rfl⟩, rfl, _, rfl, ?_⟩
        rw [hl, decide_eq_true rfl]
        refine iteT ?_
        refine ⟨_, rfl, _, rfl, a, b, xs, ys, rfl, .inr ⟨GX.Same.sqT st qx, GX.Same.sqT st qy, fun D nD => ?_⟩⟩
        refine lc_zipT (K := K) (a := a) (b := b) (xs := xs) (ys := ys) hl (fun i H' => Same H H' ∧ H' D = some (.lst ((List.replicate i true).map V.bl))) ⟨st.trans (Same.put nD), upd_same⟩ (fun i H' _ ⟨s1, _⟩ => ⟨GX.Same.sqT s1 qx, GX.Same.sqT s1 qy⟩) ?_ ?_
        · rintro i x y U H' hx hy nU ⟨s1, hD⟩
          have sU : Same H' (upd H' U (.tup [x, y])) := Same.put nU
          refine ⟨U, _, rfl, SqT.of upd_same, rfl, _, _, rfl, _, _, rfl, rfl, rfl, ?_⟩
          refine tyes (iteT ?_)
          refine ⟨_, rfl, _, rfl, rfl, x, y, rfl, (hk i x y hx hy).same (s1.trans sU), fun H4 s4 => ⟨_, s4 _ _ (sU _ _ hD), ?_, ?_, ?_⟩⟩
          · rw [List.length_map, List.length_replicate]
            have := (List.getElem?_eq_some_iff.mp hx).1
            exact Nat.lt_of_lt_of_le (Nat.lt_of_lt_of_le this hz) (by decide)
          · intro c o e
            have nD0 : c ≠ D := ne_of_none e (st.free nD)
            rw [upd_ne nD0]
            exact s4 _ _ (sU _ _ (s1 _ _ e))
          · rw [upd_same]
            have e : List.replicate (i + 1) true = List.replicate i true ++ [true] := List.replicate_succ'
            rw [e, List.map_append]
            rfl
        · rintro H' ⟨s1, hD⟩
          refine ⟨D, _, rfl, SqL.of hD, ?_⟩
          have e : (List.replicate xs.length true).all id = true := by rw [List.all_eq_true]; intro b hb; rw [List.eq_of_mem_replicate hb]; rfl
          rw [e]
          exact go _ s1
end
end K40
/-! part N40 -/
set_option Elab.async false
set_option linter.all false
set_option maxRecDepth 100000
set_option maxHeartbeats 4000000
namespace K40
open PySem L2 GX
/-- is_number_word's answer -/
def hd0 (z : Str) : Bool := match z.cps.toList with
  | c :: _ => !decide (V.str ⟨#[c]⟩ = V.str ("0" : Str))
  | [] => false
def numW (z : Str) : Bool := Txt.isascii z && (Txt.isdigit z && (decide (z.length ≤ 9) && (decide (V.str z = V.str ("0" : Str)) || hd0 z)))
/-- _law_plain's answer -/
def plW (z : Str) : Bool := decide (1 ≤ z.length) && (decide (z.length ≤ 9) && (z.cps.toList.all (fun c => decide (c ∈ ("0123456789" : Str).cps.toList)) && (decide (V.str z = V.str ("0" : Str)) || hd0 z)))
/-- the text of a number -/
def nT (n : Nat) : Str := (toString (n : Int) : String)
def toI (z : Str) : Int := (PySem.intText? z).getD 0
def chk (z : Str) : Bool := PyData.strOk z && (decide (numW z = plW z) && (decide (z.length ≤ 10) && (decide (32 ∉ z.cps.toList) && (!(numW z) || (match PySem.intText? z with | some n => decide (0 ≤ n) && decide (n ≤ 1000) | none => false)))))
def lits : List Str := ["0", "01", "-1", "+2", "", "x", "1.", "00", "1_0", "1234567890", "0x1", "3\n", "\t2", "one", "-0", "1"]
theorem lits_ok : lits.all chk = true := by decide +kernel
def chkN (n : Nat) : Bool := chk (nT n) && (numW (nT n) && decide (PySem.intText? (nT n) = some (n : Int)))
theorem nums_ok : (List.range 1001).all chkN = true := by decide +kernel
end K40
/-! part E40 -/
set_option Elab.async false
set_option linter.all false
set_option maxRecDepth 100000
set_option maxHeartbeats 4000000
namespace K40
open PySem L2 GX
def spNum : Sp := fun vs H Q _ => ∃ z : Str, vs = [.str z] ∧ z.length ≤ 1000 ∧ Q (.bl (numW z)) H
def spPlain : Sp := fun vs H Q _ => ∃ z : Str, vs = [.str z] ∧ z.length ≤ 1000 ∧ ∀ H', Same H H' → Q (.bl (plW z)) H'
def rangeI (a b c : Int) : Int := if a < 1 then 0 else if b < 1 then 1 else if 0 ≤ c ∧ c < a then 3 else 2
def spRange : Sp := fun vs H Q _ => ∃ (p : Addr) (a b c : Int) (r : List V), vs = [.ref p] ∧ H p = some (.lst (.int a :: .int b :: .int c :: r)) ∧ Q (.int (rangeI a b c)) H
theorem len_le {n : Nat} (h : n ≤ 1000) : n ≤ sizeLine := Nat.le_trans h (by decide)
theorem head_of {z : Str} (h : Txt.isdigit z = true) : ∃ c r, z.cps.toList = c :: r := by
  unfold Txt.isdigit at h
  rw [Bool.and_eq_true] at h
  have h1 : z.length > 0 := of_decide_eq_true h.1
  cases e : z.cps.toList with
  | nil =>
    have : z.cps.toList.length = z.length := Array.length_toList
    rw [e] at this
    exact absurd this (by simp only [List.length_nil]; omega)
  | cons c r => exact ⟨c, r, rfl⟩
section
variable {P : Program} {w : World} {K : PySem.W.Frag} {mg : Str → Option Value} {base : Heap} {C CB : Addr} {f : Addr} {fd : FuncData}
theorem ok_num (F : Fun K "is_number_word" "is_number_word" s_is_number_word f fd) (T : Txt K mg C CB) : FnOk P w K mg base CX0 1 f fd ["word"] spNum := by
  refine F.ok sc_is_number_word (fun vs H Q E h => ?_) (fun cdv A outer s H vs Q E hr h => ?_)
  · obtain ⟨z, rfl, _⟩ := h
    rfl
  · obtain ⟨z, rfl, hz, k⟩ := h
    have nd := sc_is_number_word.nd
    refine ⟨_, (pss_cons (ps_if (PW.pt (pw_or (pt_not (pt_val (pe_bm0 PySem.F.plainAttrs_str PySem.F.slot_str_isascii PySem.F.type_str_isascii mt_isascii (pv 0)))) (pw_or (pt_not (pt_val (pe_bm0 PySem.F.plainAttrs_str PySem.F.slot_str_isdigit PySem.F.type_str_isdigit mt_isdigit (pv 0)))) (pw_or1 (pt_cmpR op_gt (pe_callB call_len rfl T.m_len (by decide +kernel) (pa_cons (pv 0) pa_nil)) pe_int (nomark _))))))
      (pss_one (ps_ret pe_bl))
      pss_nil)
    (pss_one (ps_ret (pe_or (pe_cmpR op_eq (pv 0) pe_str (nomark _)) (pe_one (pe_cmpR op_ne (pe_ix ix_str (pv 0) pe_int (fun _ _ => rfl)) pe_str (nomark _))))))), ?_⟩
    refine ⟨_, rfl, rfl, z, rfl, rfl, trivial, _, rfl, ?_⟩
    cases e1 : Txt.isascii z with
    | false =>
      refine iteT (iteT ?_)
      have e : numW z = false := by unfold numW; rw [e1]; rfl
      rw [e] at k
      exact k
    | true =>
      refine iteF ?_
      refine ⟨_, rfl, rfl, z, rfl, rfl, trivial, _, rfl, ?_⟩
      cases e2 : Txt.isdigit z with
      | false =>
        refine iteT (iteT ?_)
        have e : numW z = false := by unfold numW; rw [e1, e2]; rfl
        rw [e] at k
        exact k
      | true =>
        refine iteF ?_
        refine ⟨_, rfl, _, _, rfl, ⟨len_le hz, rfl⟩, _, _, rfl, rfl, _, rfl, ?_⟩
        refine ite2 (fun h9 => ?_) (fun h9 => ?_)
        · have h9' := of_decide_eq_true h9
          have e : numW z = false := by
            unfold numW
            rw [e1, e2, decide_eq_false (by omega : ¬ z.length ≤ 9)]
            rfl
          rw [e] at k
          exact k
        · have h9' : ¬ ((9 : Int) < (z.length : Int)) := fun q => h9 (decide_eq_true q)
          have e : numW z = (decide (V.str z = V.str ("0" : Str)) || hd0 z) := by
            unfold numW
            rw [e1, e2, decide_eq_true (by omega : z.length ≤ 9)]
            simp only [Bool.true_and]
          rw [e] at k
          obtain ⟨c, r, hcr⟩ := head_of e2
          refine ⟨_, rfl, rfl, _, rfl, ?_⟩
          refine ite2 (fun h0 => ?_) (fun h0 => ?_)
          · rw [h0] at k
            exact k
          · have h0' : decide (V.str z = V.str ("0" : Str)) = false := by cases hh : decide (V.str z = V.str ("0" : Str)) with
              | false => rfl
              | true => exact absurd hh h0
            rw [h0', Bool.false_or] at k
            refine ⟨_, rfl, z, 0, c, rfl, rfl, len_le hz, by rw [hcr]; exact atI_nat (j := 0) rfl, rfl, ?_⟩
            have e3 : hd0 z = !decide (V.str ⟨#[c]⟩ = V.str ("0" : Str)) := by unfold hd0; rw [hcr]
            rw [e3] at k
            exact k
theorem ok_range (F : Fun K "_law_range" "_law_range" s_law_range f fd) (T : Txt K mg C CB) : FnOk P w K mg base CX0 1 f fd ["numbers"] spRange := by
  refine F.ok sc_law_range (fun vs H Q E h => ?_) (fun cdv A outer s H vs Q E hr h => ?_)
  · obtain ⟨p, a, b, c, r, rfl, _⟩ := h
    rfl
  · obtain ⟨p, a, b, c, r, rfl, hp, k⟩ := h
    have nd := sc_law_range.nd
    refine ⟨_, (pss_cons (ps_if (pt_cmpR op_lt (pe_ix ix_list (pv 0) pe_int (fun _ _ => rfl)) pe_int (nomark _))
      (pss_one (ps_ret pe_int))
      pss_nil)
    (pss_cons (ps_if (pt_cmpR op_lt (pe_ix ix_list (pv 0) pe_int (fun _ _ => rfl)) pe_int (nomark _))
      (pss_one (ps_ret pe_int))
      pss_nil)
    (pss_one (ps_ret (pe_ifExp (pt_chain op_le op_lt pe_int (pe_ix ix_list (pv 0) pe_int (fun _ _ => rfl)) (pe_ix ix_list (pv 0) pe_int (fun _ _ => rfl))) pe_int pe_int))))), ?_⟩
    have g0 : atI (V.int a :: V.int b :: V.int c :: r) 0 = some (.int a) := atI_nat (j := 0) rfl
    have g1 : atI (V.int a :: V.int b :: V.int c :: r) 1 = some (.int b) := atI_nat (j := 1) rfl
    have g2 : atI (V.int a :: V.int b :: V.int c :: r) 2 = some (.int c) := atI_nat (j := 2) rfl
    refine ⟨_, rfl, p, _, _, _, rfl, rfl, SqL.of hp, g0, _, _, rfl, rfl, _, rfl, ?_⟩
    refine ite2 (fun h => ?_) (fun h => ?_)
    · have h1 := of_decide_eq_true h
      have e : rangeI a b c = 0 := if_pos h1
      rw [e] at k
      exact k
    have h1 : ¬ a < 1 := fun q => h (decide_eq_true q)
    refine ⟨_, rfl, p, _, _, _, rfl, rfl, SqL.of hp, g1, _, _, rfl, rfl, _, rfl, ?_⟩
    refine ite2 (fun h => ?_) (fun h => ?_)
    · have h2 := of_decide_eq_true h
      have e : rangeI a b c = 1 := (if_neg h1).trans (if_pos h2)
      rw [e] at k
      exact k
    have h2 : ¬ b < 1 := fun q => h (decide_eq_true q)
    have e0 : rangeI a b c = if 0 ≤ c ∧ c < a then 3 else 2 := (if_neg h1).trans (if_neg h2)
    rw [e0] at k
    refine ⟨_, rfl, p, _, _, _, rfl, rfl, SqL.of hp, g2, _, _, rfl, rfl, _, rfl, ?_⟩
    refine ite2 (fun h => ?_) (fun h => ?_)
    · have h3 : 0 ≤ c := of_decide_eq_true h
      refine ⟨_, rfl, p, _, _, _, rfl, rfl, SqL.of hp, g0, _, _, rfl, rfl, _, rfl, ?_⟩
      refine ite2 (fun h => ?_) (fun h => ?_)
      · have h4 : c < a := of_decide_eq_true h
        rw [if_pos ⟨h3, h4⟩] at k
        exact k
      · rw [if_neg (fun q => h (decide_eq_true q.2))] at k
        exact k
    · rw [if_neg (fun q => h (decide_eq_true q.1))] at k
      refine ⟨_, rfl, ?_⟩
      exact k
end
end K40
/-! part G40 -/
set_option Elab.async false
set_option linter.all false
set_option maxRecDepth 100000
set_option maxHeartbeats 4000000
namespace K40
open PySem L2 GX
def siteV (w h t i j : Int) : List V := [.int ((i - j / h * t) % w), .int (j - j / h * h)]
def shapeV (w h t : Int) : List V := [.int w, .int h, .int t]
structure Good (w h t : Int) : Prop where
  w0 : 0 < w
  w1 : w ≤ 1000
  h0 : 0 < h
  h1 : h ≤ 1000
  t0 : 0 ≤ t
  t1 : t < w
def spSite (K : PySem.W.Frag) : Sp := fun vs H Q _ => ∃ (s : Addr) (w h t i j : Int), vs = [.ref s, .int i, .int j] ∧ SqT K H s (shapeV w h t) ∧ Good w h t ∧ ∀ p, H p = none → Q (.ref p) (upd H p (.tup (siteV w h t i j)))
/-- the cells of the k-th place, by columns -/
structure SitesAt (H : Hp) (p : Addr) (h : Int) (n : Nat) : Prop where
  ex : ∃ ps : List Addr, H p = some (.lst (ps.map V.ref)) ∧ ps.length = n ∧ ∀ (k : Nat) (a : Addr), ps[k]? = some a → H a = some (.tup [.int ((k : Int) / h), .int ((k : Int) % h)])
def spSites (K : PySem.W.Frag) : Sp := fun vs H Q _ => ∃ (s : Addr) (w h t : Int), vs = [.ref s] ∧ SqT K H s (shapeV w h t) ∧ Good w h t ∧ w * h ≤ 150 ∧ ∀ p H', Same H H' → H p = none → SitesAt H' p h (w * h).toNat → Q (.ref p) H'
theorem Same.keepD {H H' : Hp} {D : Addr} {o : HO} (s : Same H H') (n : H D = none) : Same H (upd H' D o) := fun c u e => by rw [upd_ne (ne_of_none e n)]; exact s c u e
section
variable {P : Program} {w : World} {K : PySem.W.Frag} {mg : Str → Option Value} {base : Heap} {C CB : Addr} {f : Addr} {fd : FuncData}
theorem ok_plain (F : Fun K "_law_plain" "_law_plain" s_law_plain f fd) (T : Txt K mg C CB) : FnOk P w K mg base CX0 1 f fd ["word"] spPlain := by
  refine F.ok sc_law_plain (fun vs H Q E h => ?_) (fun cdv A outer s H vs Q E hr h => ?_)
  · obtain ⟨z, rfl, _⟩ := h
    rfl
  · obtain ⟨z, rfl, hz, k⟩ := h
    have nd := sc_law_plain.nd
    refine ⟨_, (pss_cons (ps_set (i := 1) nd rfl (Or.inl rfl) (pe_and (pe_chain op_le op_le pe_int (pe_callB call_len rfl T.m_len (by decide +kernel) (pa_cons (pv 0) pa_nil)) pe_int) (pe_one (pe_callB (cr_all rfl) rfl T.m_all (by decide +kernel) (pa_cons (pe_lc (own := [("sign", 2)]) (g := gName 2) (tt := tYes) rfl nd (pi_str (pv 0)) (blkOk_by (own := [("sign", 2)]) (N := ["word", "good", "sign"]) (sc := defScope s_law_plain) (by decide +kernel)) (fun _ _ _ _ _ => (pg_name (i := 2) nd rfl (Or.inl rfl))) (fun _ _ _ _ _ => pts_nil) (fun _ _ _ _ _ => (pe_cmpR op_in_sign (pv 2) pe_str rfl))) pa_nil)))))
    (pss_one (ps_ret (pe_and (pv 1) (pe_one (pe_or (pe_cmpR op_eq (pv 0) pe_str (nomark _)) (pe_one (pe_cmpR op_ne (pe_ix ix_str (pv 0) pe_int (fun _ _ => rfl)) pe_str (nomark _))))))))), ?_⟩
    have no : ∀ {Q' : VK}, plW z = false → (∀ H', Same H H' → Q (.bl (plW z)) H') → Q (.bl false) H := fun e k => by rw [e] at k; exact k H (Same.refl H)
    refine ⟨_, rfl, _, _, rfl, ⟨len_le hz, rfl⟩, _, _, rfl, rfl, _, rfl, ?_⟩
    refine ite2 (fun h1 => ?_) (fun h1 => ?_)
    · have h1' : (1 : Int) ≤ (z.length : Int) := of_decide_eq_true h1
      refine ⟨_, _, rfl, rfl, _, rfl, ?_⟩
      refine ite2 (fun h9 => ?_) (fun h9 => ?_)
      · have h9' : (z.length : Int) ≤ 9 := of_decide_eq_true h9
        have hlen : z.cps.toList.length = z.length := Array.length_toList
        have e1 : plW z = (z.cps.toList.all (fun c => decide (c ∈ ("0123456789" : Str).cps.toList)) && (decide (V.str z = V.str ("0" : Str)) || hd0 z)) := by
          unfold plW
          rw [decide_eq_true (by omega : 1 ≤ z.length), decide_eq_true (by omega : z.length ≤ 9)]
          simp only [Bool.true_and]
        rw [e1] at k
        obtain ⟨c, r, hcr⟩ : ∃ c r, z.cps.toList = c :: r := by
          cases e : z.cps.toList with
          | nil =>
            rw [e] at hlen
            exact absurd hlen (by simp only [List.length_nil]; omega)
          | cons c r => exact ⟨c, r, rfl⟩
        refine ⟨_, rfl, z, rfl, fun D nD => ?_⟩
        refine lc_str (x := z) (fun i H' => Same H H' ∧ H' D = some (.lst ((((z.cps.toList.take i).map (fun c => decide (c ∈ ("0123456789" : Str).cps.toList)))).map V.bl))) ⟨Same.put nD, upd_same⟩ ?_ ?_
        · rintro i c H' hc ⟨s1, hD⟩
          refine ⟨rfl, tyes (iteT ?_)⟩
          have hi := (List.getElem?_eq_some_iff.mp hc).1
          refine ⟨_, rfl, _, _, rfl, rfl, _, hD, ?_, Same.keepD s1 nD, ?_⟩
          · rw [List.length_map, List.length_map, List.length_take]
            exact Nat.lt_of_lt_of_le (by omega : _ < 1000) (by decide)
          · rw [upd_same, List.take_add_one, hc]
            simp only [List.map_append, Option.toList_some, List.map_cons, List.map_nil]
        · rintro H' ⟨s1, hD⟩
          rw [List.take_length] at hD
          refine ⟨D, _, rfl, SqL.of hD, ?_⟩
          rw [List.all_map]
          refine ⟨_, rfl, _, rfl, ?_⟩
          have e2 : (z.cps.toList.all (id ∘ fun c => decide (c ∈ ("0123456789" : Str).cps.toList))) = z.cps.toList.all (fun c => decide (c ∈ ("0123456789" : Str).cps.toList)) := rfl
          rw [e2]
          refine ite2 (fun h0 => ?_) (fun h0 => ?_)
          · rw [h0] at k
            simp only [Bool.true_and] at k
            refine ⟨_, rfl, rfl, _, rfl, ?_⟩
            refine ite2 (fun h0 => ?_) (fun h0 => ?_)
            · rw [h0] at k
              exact k _ s1
            · have h0' : decide (V.str z = V.str ("0" : Str)) = false := by cases hh : decide (V.str z = V.str ("0" : Str)) with
                | false => rfl
                | true => exact absurd hh h0
              rw [h0', Bool.false_or] at k
              refine ⟨_, rfl, z, 0, c, rfl, rfl, len_le hz, by rw [hcr]; exact atI_nat (j := 0) rfl, rfl, ?_⟩
              have e3 : hd0 z = !decide (V.str ⟨#[c]⟩ = V.str ("0" : Str)) := by unfold hd0; rw [hcr]
              rw [e3] at k
              exact k _ s1
          · have h0' : (z.cps.toList.all (fun c => decide (c ∈ ("0123456789" : Str).cps.toList))) = false := by cases hh : (z.cps.toList.all (fun c => decide (c ∈ ("0123456789" : Str).cps.toList))) with
              | false => rfl
              | true => exact absurd hh h0
            rw [h0'] at k
            exact k _ s1
      · have e1 : plW z = false := by
          unfold plW
          rw [decide_eq_false (fun q : z.length ≤ 9 => h9 (decide_eq_true (by omega : (z.length : Int) ≤ 9)))]
          simp only [Bool.false_and, Bool.and_false]
        rw [e1] at k
        refine ⟨_, rfl, _, rfl, ?_⟩
        exact k H (Same.refl H)
    · have e1 : plW z = false := by
        unfold plW
        rw [decide_eq_false (fun q : 1 ≤ z.length => h1 (decide_eq_true (by omega : (1 : Int) ≤ (z.length : Int))))]
        rfl
      rw [e1] at k
      refine ⟨_, rfl, ?_⟩
      refine iteF ?_
      refine ⟨_, rfl, _, rfl, ?_⟩
      exact k H (Same.refl H)
end
end K40
/-! part I40 -/
set_option Elab.async false
set_option linter.all false
set_option maxRecDepth 100000
set_option maxHeartbeats 4000000
namespace K40
open PySem L2 GX
/-- what a text's words tell: the place of the first fault, or the three numbers -/
def bad? (ws : List Str) : Option Nat := ws.findIdx? (fun z => !numW z)
def num3 (ws : List Str) : Int := if ws.length = 3 then toI (ws.getD 2 Str.empty) else 0
def due (ws : List Str) : Int ⊕ (Int × Int × Int) :=
  if ws.length < 2 ∨ 3 < ws.length then .inl (-1) else
  match bad? ws with
  | some k => .inl k
  | none => if rangeI (toI (ws.getD 0 Str.empty)) (toI (ws.getD 1 Str.empty)) (num3 ws) < 3 then .inl (rangeI (toI (ws.getD 0 Str.empty)) (toI (ws.getD 1 Str.empty)) (num3 ws)) else .inr (toI (ws.getD 0 Str.empty), toI (ws.getD 1 Str.empty), num3 ws)
/-- a word that may be drawn -/
structure WordOk (z : Str) : Prop where
  ok : PyData.strOk z = true
  same : numW z = plW z
  len : z.length ≤ 10
  nosp : 32 ∉ z.cps.toList
  num : numW z = true → PySem.intText? z = some (toI z) ∧ 0 ≤ toI z ∧ toI z ≤ 1000
theorem wordOk_of {z : Str} (h : chk z = true) : WordOk z := by
  unfold chk at h
  simp only [Bool.and_eq_true, decide_eq_true_eq] at h
  obtain ⟨h0, h1, h2, h3, h4⟩ := h
  refine ⟨h0, h1, h2, h3, fun hn => ?_⟩
  rw [hn, Bool.not_true, Bool.false_or] at h4
  unfold toI
  cases e : PySem.intText? z with
  | none => rw [e] at h4; cases h4
  | some n =>
    rw [e] at h4
    simp only [Bool.and_eq_true, decide_eq_true_eq] at h4
    exact ⟨rfl, h4.1, h4.2⟩
theorem lit_ok {z : Str} (h : z ∈ lits) : WordOk z := wordOk_of (List.all_eq_true.mp lits_ok z h)
theorem nT_ok {n : Nat} (h : n ≤ 1000) : WordOk (nT n) ∧ numW (nT n) = true ∧ PySem.intText? (nT n) = some (n : Int) := by
  have z := List.all_eq_true.mp nums_ok n (List.mem_range.mpr (by omega))
  unfold chkN at z
  simp only [Bool.and_eq_true, decide_eq_true_eq] at z
  exact ⟨wordOk_of z.1, z.2.1, z.2.2⟩
/-- the tuple that tells a due result -/
inductive DueAt (K : PySem.W.Frag) (H : Hp) : V → (Int ⊕ (Int × Int × Int)) → Prop
  | bad {p : Addr} {r : Int} (h : H p = some (.tup [.str ("at" : Str), .int r])) : DueAt K H (.ref p) (.inl r)
  | ring {p s : Addr} {a b c : Int} (h : H p = some (.tup [.str ("ring" : Str), .ref s])) (hs : H s = some (.tup (shapeV a b c))) : DueAt K H (.ref p) (.inr (a, b, c))
def spDue (K : PySem.W.Frag) : Sp := fun vs H Q _ => ∃ (p : Addr) (ws : List Str), vs = [.ref p] ∧ H p = some (.lst (ws.map V.str)) ∧ ws.length ≤ 100 ∧ (∀ z ∈ ws, WordOk z) ∧ ∀ v H', Same H H' → DueAt K H' v (due ws) → Q v H'
theorem rangeI_le (a b c : Int) : 0 ≤ rangeI a b c ∧ rangeI a b c ≤ 3 := by
  unfold rangeI
  split
  · omega
  · split
    · omega
    · split <;> omega
theorem div_bound {i h : Int} (h0 : 0 < h) : i / h * h ≤ i ∧ i - h < i / h * h := by
  have e := Int.mul_ediv_add_emod i h
  have r0 := Int.emod_nonneg i (show h ≠ 0 by omega)
  have r1 := Int.emod_lt_of_pos i h0
  have c : h * (i / h) = i / h * h := Int.mul_comm _ _
  omega
section
variable {P : Program} {w : World} {K : PySem.W.Frag} {mg : Str → Option Value} {base : Heap} {C CB : Addr} {f : Addr} {fd : FuncData}
theorem ok_site (F : Fun K "_law_site" "_law_site" s_law_site f fd) (T : Txt K mg C CB) : FnOk P w K mg base CX0 1 f fd ["shape", "i", "j"] (spSite K) := by
  refine F.ok sc_law_site (fun vs H Q E h => ?_) (fun cdv A outer st H vs Q E hr h => ?_)
  · obtain ⟨s, w, h, t, i, j, rfl, _⟩ := h
    rfl
  · obtain ⟨s, w, h, t, i, j, rfl, hs, G, k⟩ := h
    have nd := sc_law_site.nd
    obtain ⟨w0, w1, h0, h1, t0, t1⟩ := G
    have g0 : atI (shapeV w h t) 0 = some (.int w) := atI_nat (j := 0) rfl
    have g1 : atI (shapeV w h t) 1 = some (.int h) := atI_nat (j := 1) rfl
    have g2 : atI (shapeV w h t) 2 = some (.int t) := atI_nat (j := 2) rfl
    refine ⟨_, (pss_cons (ps_set (i := 3) nd rfl (Or.inl rfl) (pe_op op_fdiv (pv 2) (pe_ix ix_tup (pv 0) pe_int (fun _ _ => rfl))))
    (pss_one (ps_ret (pe_tup (pa_cons (pe_op op_mod (pe_callTy call_int1 rfl T.m_int (by decide +kernel) (pa_cons (pe_op op_sub (pv 1) (pe_op op_mul (pv 3) (pe_ix ix_tup (pv 0) pe_int (fun _ _ => rfl)))) pa_nil)) (pe_ix ix_tup (pv 0) pe_int (fun _ _ => rfl))) (pa_cons (pe_op op_sub (pv 2) (pe_op op_mul (pv 3) (pe_ix ix_tup (pv 0) pe_int (fun _ _ => rfl)))) pa_nil)))))), ?_⟩
    refine ⟨_, rfl, _, rfl, s, _, _, _, rfl, rfl, hs, g1, _, _, rfl, rfl, ⟨h0, by show h < 1073741824; omega⟩, ?_⟩
    refine ⟨_, rfl, _, rfl, _, rfl, s, _, _, _, rfl, rfl, hs, g2, _, _, rfl, rfl, .inr ⟨by omega, by omega⟩, _, _, rfl, rfl, .inl ⟨_, rfl, _, rfl, s, _, _, _, rfl, rfl, hs, g0, _, _, rfl, rfl, w0, ?_⟩⟩
    refine ⟨_, rfl, _, rfl, _, rfl, s, _, _, _, rfl, rfl, hs, g1, _, _, rfl, rfl, .inr ⟨by omega, by omega⟩, _, _, rfl, rfl, by show 2 ≤ sizeLine; decide, fun p np => ?_⟩
    exact k p np
theorem ok_sites (F : Fun K "_law_sites" "_law_sites" s_law_sites f fd) (T : Txt K mg C CB) : FnOk P w K mg base CX0 1 f fd ["shape"] (spSites K) := by
  refine F.ok sc_law_sites (fun vs H Q E h => ?_) (fun cdv A outer st H vs Q E hr h => ?_)
  · obtain ⟨s, w, h, t, rfl, _⟩ := h
    rfl
  · obtain ⟨s, w, h, t, rfl, hs, G, hb, k⟩ := h
    have nd := sc_law_sites.nd
    obtain ⟨w0, w1, h0, h1, t0, t1⟩ := G
    have g0 : atI (shapeV w h t) 0 = some (.int w) := atI_nat (j := 0) rfl
    have g1 : atI (shapeV w h t) 1 = some (.int h) := atI_nat (j := 1) rfl
    have hp : 0 ≤ w * h := Int.mul_nonneg (by omega) (by omega)
    refine ⟨_, (pss_one (ps_ret (pe_lc (own := [("k", 1)]) (g := gName 1) (tt := tYes) rfl nd (pi_range1 rfl T.m_range (pa_cons (pe_op op_mul (pe_ix ix_tup (pv 0) pe_int (fun _ _ => rfl)) (pe_ix ix_tup (pv 0) pe_int (fun _ _ => rfl))) pa_nil)) (blkOk_by (own := [("k", 1)]) (N := ["shape", "k"]) (sc := defScope s_law_sites) (by decide +kernel)) (fun _ _ _ _ _ => (pg_name (i := 1) nd rfl (Or.inl rfl))) (fun _ _ _ _ _ => pts_nil) (fun _ _ _ _ _ => (pe_tup (pa_cons (pe_op op_fdiv (pv 1) (pe_ix (r := rIxT K) ix_tup (pv 0) pe_int (fun _ _ => rfl))) (pa_cons (pe_op op_mod (pe_callTy call_int1 rfl T.m_int (by decide +kernel) (pa_cons (pv 1) pa_nil)) (pe_ix (r := rIxT K) ix_tup (pv 0) pe_int (fun _ _ => rfl))) pa_nil))))))), ?_⟩
    refine ⟨_, rfl, s, _, _, _, rfl, rfl, hs, g0, _, rfl, s, _, _, _, rfl, rfl, hs, g1, _, _, rfl, rfl, .inr ⟨by omega, by omega⟩, _, rfl, by omega, by omega, fun D nD => ?_⟩
    refine lc_range (lo := 0) (n := (w * h).toNat) (fun i H' => Same H H' ∧ ∃ ps : List Addr, H' D = some (.lst (ps.map V.ref)) ∧ ps.length = i ∧ ∀ (k : Nat) (a : Addr), ps[k]? = some a → H' a = some (.tup [.int ((k : Int) / h), .int ((k : Int) % h)]))
      ⟨Same.put nD, [], upd_same, rfl, fun k a e => by simp at e⟩ ?_ ?_
    · rintro i H' hi ⟨s1, ps, hD, hl, hps⟩
      refine ⟨rfl, tyes (iteT ?_)⟩
      have hs' := GX.Same.sqT s1 hs
      refine ⟨_, rfl, _, rfl, s, _, _, _, rfl, rfl, hs', g1, _, _, rfl, rfl, ⟨h0, by show h < 1073741824; omega⟩, _, rfl, .inl ⟨_, rfl, _, rfl, s, _, _, _, rfl, rfl, hs', g1, _, _, rfl, rfl, h0, ?_⟩⟩
      refine ⟨by show 2 ≤ sizeLine; decide, fun a na => ?_⟩
      have nDa : D ≠ a := ne_of_none hD na
      refine ⟨_, (upd_ne nDa).trans hD, ?_, Same.keepD (s1.trans (Same.put na)) nD, ps ++ [a], ?_, ?_, ?_⟩
      · rw [List.length_map, hl]
        exact Nat.lt_of_lt_of_le (by omega : i < 1000) (by decide)
      · rw [upd_same, List.map_append]
        rfl
      · rw [List.length_append, hl]
        rfl
      · intro k b hk
        rw [List.getElem?_append] at hk
        split at hk
        · have hb := hps k b hk
          have e1 : b ≠ D := ne_of hb hD (by intro z; cases z)
          have e2 : b ≠ a := ne_of_none hb na
          rw [upd_ne e1, upd_ne e2]
          exact hb
        · rename_i hnl
          have e0 : k - ps.length = 0 := by
            have := (List.getElem?_eq_some_iff.mp hk).1
            simp only [List.length_cons, List.length_nil] at this
            omega
          rw [e0] at hk
          have eb : a = b := Option.some.inj hk
          subst eb
          have ek : k = i := by omega
          subst ek
          rw [upd_ne nDa.symm, upd_same, Int.zero_add]
    · rintro H' ⟨s1, ps, hD, hl, hps⟩
      exact k D H' s1 nD ⟨ps, hD, hl, hps⟩
end
end K40
/-! part J40 -/
set_option Elab.async false
set_option linter.all false
set_option maxRecDepth 100000
set_option maxHeartbeats 4000000
namespace K40
open PySem L2 GX
theorem bad_some {ws : List Str} {i : Nat} {z : Str} (hi : ws[i]? = some z) (hz : numW z = false) (hb : ∀ (j : Nat) (y : Str), j < i → ws[j]? = some y → numW y = true) : bad? ws = some i := by
  unfold bad?
  rw [List.findIdx?_eq_some_iff_getElem]
  obtain ⟨hl, e⟩ := List.getElem?_eq_some_iff.mp hi
  refine ⟨hl, by rw [e, hz]; rfl, fun j hj => ?_⟩
  rw [hb j _ hj (List.getElem?_eq_getElem (by omega))]
  decide
theorem bad_none {ws : List Str} (hb : ∀ (j : Nat) (y : Str), ws[j]? = some y → numW y = true) : bad? ws = none := by
  unfold bad?
  rw [List.findIdx?_eq_none_iff]
  intro z hz
  obtain ⟨j, hj⟩ := List.mem_iff_getElem?.mp hz
  rw [hb j z hj]
  rfl
theorem due_len {ws : List Str} (h : ws.length < 2 ∨ 3 < ws.length) : due ws = .inl (-1) := if_pos h
theorem due_bad {ws : List Str} {k : Nat} (h : ¬ (ws.length < 2 ∨ 3 < ws.length)) (hb : bad? ws = some k) : due ws = .inl (k : Int) := by
  unfold due
  rw [if_neg h, hb]
theorem due_fit {ws : List Str} (h : ¬ (ws.length < 2 ∨ 3 < ws.length)) (hb : bad? ws = none) : due ws =
    if rangeI (toI (ws.getD 0 Str.empty)) (toI (ws.getD 1 Str.empty)) (num3 ws) < 3 then .inl (rangeI (toI (ws.getD 0 Str.empty)) (toI (ws.getD 1 Str.empty)) (num3 ws)) else .inr (toI (ws.getD 0 Str.empty), toI (ws.getD 1 Str.empty), num3 ws) := by
  unfold due
  rw [if_neg h, hb]
/-- the numbers of two or three words, a nought behind -/
theorem nums_of {ws : List Str} (h : ¬ (ws.length < 2 ∨ 3 < ws.length)) : ∃ r : List V, ws.map (fun z => V.int (toI z)) ++ [V.int 0] = .int (toI (ws.getD 0 Str.empty)) :: .int (toI (ws.getD 1 Str.empty)) :: .int (num3 ws) :: r := by
  match ws, h with
  | [], h => exact absurd (Or.inl (by decide : ([] : List Str).length < 2)) h
  | [_], h => exact absurd (Or.inl (by show (1 : Nat) < 2; decide)) h
  | [a, b], _ => exact ⟨[], rfl⟩
  | [a, b, c], _ => exact ⟨[.int 0], rfl⟩
  | _ :: _ :: _ :: _ :: r, h => exact absurd (Or.inr (by simp only [List.length_cons]; omega)) h
section
variable {P : Program} {w : World} {K : PySem.W.Frag} {mg : Str → Option Value} {base : Heap} {C CB : Addr} {f : Addr} {fd : FuncData}
theorem ok_due (F : Fun K "_law_due" "_law_due" s_law_due f fd) (T : Txt K mg C CB) (g_law_plain : CalN P w K mg base 1 "_law_plain" 1 [] (sk spPlain)) (g_law_range : CalN P w K mg base 1 "_law_range" 1 [] (sk spRange)) :
    FnOk P w K mg base CX0 2 f fd ["words"] (spDue K) := by
  refine F.ok sc_law_due (fun vs H Q E h => ?_) (fun cdv A outer st H vs Q E hr h => ?_)
  · obtain ⟨p, ws, rfl, _⟩ := h
    rfl
  · obtain ⟨p, ws, rfl, hp, hl, hw, k⟩ := h
    have nd := sc_law_due.nd
    refine ⟨_, (pss_cons (ps_if (PW.pt (pw_or (pt_cmpR op_lt (pe_callB call_len rfl T.m_len (by decide +kernel) (pa_cons (pv 0) pa_nil)) pe_int (nomark _)) (pw_or1 (pt_cmpR op_gt (pe_callB call_len rfl T.m_len (by decide +kernel) (pa_cons (pv 0) pa_nil)) pe_int (nomark _)))))
      (pss_one (ps_ret (pe_tup (pa_cons pe_str (pa_cons (pe_un un_neg pe_int) pa_nil)))))
      pss_nil)
    (pss_cons (ps_for PassesOwn.never rfl (pi_enum rfl T.m_enumerate (pa_cons (pv 0) pa_nil)) (pg_tup rfl (pgs_cons (pg_name (i := 1) nd rfl (Or.inl rfl)) (pgs_cons (pg_name (i := 2) nd rfl (Or.inl rfl)) pgs_nil)))
      (pss_one (ps_if (pt_not (pt_val (pn_f g_law_plain hr (by decide) takes0N rfl (pa_cons (pv 2) pa_nil))))
        (pss_one (ps_ret (pe_tup (pa_cons pe_str (pa_cons (pv 1) pa_nil)))))
        pss_nil)))
    (pss_cons (ps_set (i := 3) nd rfl (Or.inl rfl) (pe_op op_cat (pe_lc (own := [("word", 2)]) (g := gName 2) (tt := tYes) rfl nd (pi_list (pv 0)) (blkOk_by (own := [("word", 2)]) (N := ["words", "k", "word", "numbers"]) (sc := defScope s_law_due) (by decide +kernel)) (fun _ _ _ _ _ => (pg_name (i := 2) nd rfl (Or.inl rfl))) (fun _ _ _ _ _ => pts_nil) (fun _ _ _ _ _ => (pe_callTy call_int_str rfl T.m_int (by decide +kernel) (pa_cons (pv 2) pa_nil)))) (pe_lst (pa_cons pe_int pa_nil))))
    (pss_cons (ps_if (pt_cmpR op_lt (pn_f g_law_range hr (by decide) takes0N rfl (pa_cons (pv 3) pa_nil)) pe_int (nomark _))
      (pss_one (ps_ret (pe_tup (pa_cons pe_str (pa_cons (pn_f g_law_range hr (by decide) takes0N rfl (pa_cons (pv 3) pa_nil)) pa_nil)))))
      pss_nil)
    (pss_one (ps_ret (pe_tup (pa_cons pe_str (pa_cons (pe_tup (pa_cons (pe_ix ix_list (pv 3) pe_int (fun _ _ => rfl)) (pa_cons (pe_ix ix_list (pv 3) pe_int (fun _ _ => rfl)) (pa_cons (pe_ix ix_list (pv 3) pe_int (fun _ _ => rfl)) pa_nil)))) pa_nil))))))))), ?_⟩
    have hlen : (ws.map V.str).length = ws.length := List.length_map _
    have early : ¬ ¬ (ws.length < 2 ∨ 3 < ws.length) → ∀ q, H q = none → Q (.ref q) (upd H q (.tup [.str ("at" : Str), .int (-1)])) := fun h q nq => by
      refine k _ _ (Same.put nq) ?_
      rw [due_len (Classical.not_not.mp h)]
      exact .bad upd_same
    refine ⟨_, rfl, _, _, rfl, .inl ⟨_, SqL.of hp, rfl⟩, _, _, rfl, rfl, _, rfl, ?_⟩
    refine ite2 (fun h2 => ?_) (fun h2 => ?_)
    · have h2' := of_decide_eq_true h2
      refine iteT ?_
      refine ⟨_, rfl, by show 2 ≤ sizeLine; decide, fun q nq => ?_⟩
      exact early (fun h => h (.inl (by omega))) q nq
    refine ⟨_, rfl, _, _, rfl, .inl ⟨_, SqL.of hp, rfl⟩, _, _, rfl, rfl, _, rfl, ?_⟩
    refine ite2 (fun h3 => ?_) (fun h3 => ?_)
    · have h3' := of_decide_eq_true h3
      refine ⟨_, rfl, by show 2 ≤ sizeLine; decide, fun q nq => ?_⟩
      exact early (fun h => h (.inr (by omega))) q nq
    have hin : ¬ (ws.length < 2 ∨ 3 < ws.length) := fun h => by
      rcases h with h | h
      · exact h2 (decide_eq_true (by omega))
      · exact h3 (decide_eq_true (by omega))
    refine ⟨_, rfl, p, _, rfl, SqL.of hp, ?_⟩
    refine for_enum (K := K) (a := p) (xs := ws.map V.str) (fun i σ H2 => ∃ x y, σ = [some (.ref p), x, y, none] ∧ Same H H2 ∧ ∀ (j : Nat) (z : Str), j < i → ws[j]? = some z → numW z = true)
      ⟨_, _, rfl, Same.refl H, fun j z hj => absurd hj (Nat.not_lt_zero j)⟩ (fun i σ H2 _ ⟨_, _, _, s1, _⟩ => SqL.of (s1 _ _ hp)) ?_ ?_
    · rintro i x U σ H2 hx nU ⟨_, _, rfl, s1, hb⟩
      obtain ⟨z, hz, rfl⟩ : ∃ z, ws[i]? = some z ∧ x = V.str z := by
        rw [List.getElem?_map] at hx
        cases e : ws[i]? with
        | none => rw [e] at hx; cases hx
        | some z => rw [e] at hx; exact ⟨z, rfl, (Option.some.inj hx).symm⟩
      have wk := hw z (List.mem_of_getElem? hz)
      have sU : Same H2 (upd H2 U (.tup [.int (i : Nat), .str z])) := Same.put nU
      refine ⟨U, _, rfl, SqT.of upd_same, rfl, _, _, rfl, _, _, rfl, rfl, ?_⟩
      refine ⟨_, rfl, rfl, z, rfl, by have := wk.len; omega, fun H3 s3 => ⟨_, rfl, ?_⟩⟩
      rw [← wk.same]
      cases hn : numW z with
      | true =>
        refine iteF ?_
        refine ⟨_, _, rfl, s1.trans (sU.trans s3), fun j y hj hy => ?_⟩
        by_cases e : j < i
        · exact hb j y e hy
        · have e : j = i := by omega
          subst e
          rw [hz] at hy
          cases hy
          exact hn
      | false =>
        refine iteT ?_
        refine ⟨_, rfl, by show 2 ≤ sizeLine; decide, fun q nq => ?_⟩
        refine k _ _ ((s1.trans (sU.trans s3)).trans (Same.put nq)) ?_
        rw [due_bad hin (bad_some hz hn hb)]
        exact .bad upd_same
    · rintro σ H2 ⟨x, y, rfl, s1, hb⟩
      have hp2 := s1 _ _ hp
      have all : ∀ (j : Nat) (z : Str), ws[j]? = some z → numW z = true := fun j z hj => hb j z (by rw [hlen]; exact (List.getElem?_eq_some_iff.mp hj).1) hj
      obtain ⟨r, hr3⟩ := nums_of hin
      refine ⟨_, rfl, p, rfl, ⟨_, SqL.of hp2⟩, fun D nD => ?_⟩
      refine lc_list (K := K) (a := p) (xs := ws.map V.str) (fun i H' => Same H2 H' ∧ H' D = some (.lst ((ws.take i).map fun z => V.int (toI z)))) ⟨Same.put nD, upd_same⟩ (fun i H' _ ⟨s2, _⟩ => SqL.of (s2 _ _ hp2)) ?_ ?_
      · rintro i x H' hx ⟨s2, hD⟩
        obtain ⟨z, hz, rfl⟩ : ∃ z, ws[i]? = some z ∧ x = V.str z := by
          rw [List.getElem?_map] at hx
          cases e : ws[i]? with
          | none => rw [e] at hx; cases hx
          | some z => rw [e] at hx; exact ⟨z, rfl, (Option.some.inj hx).symm⟩
        have wk := hw z (List.mem_of_getElem? hz)
        have hi := (List.getElem?_eq_some_iff.mp hz).1
        refine ⟨rfl, tyes (iteT ?_)⟩
        refine ⟨_, rfl, _, _, rfl, (wk.num (all i z hz)).1, by have := wk.len; omega, _, hD, ?_, Same.keepD s2 nD, ?_⟩
        · rw [List.length_map, List.length_take]
          exact Nat.lt_of_lt_of_le (by omega : _ < 1000) (by decide)
        · rw [upd_same, List.take_add_one, hz]
          simp only [List.map_append, Option.toList_some, List.map_cons, List.map_nil]
      · rintro H' ⟨s2, hD⟩
        rw [hlen, List.take_length] at hD
        refine ⟨by show 1 ≤ sizeLine; decide, fun q nq => ⟨D, q, _, _, rfl, rfl, (Same.put nq) _ _ hD, upd_same, ?_, fun L nL => ?_⟩⟩
        · rw [List.length_map]
          exact Nat.le_trans (by simp only [List.length_cons, List.length_nil]; omega : _ ≤ 1000) (by decide)
        have hL : (upd (upd H' q (.lst [V.int 0])) L (.lst (ws.map (fun z => V.int (toI z)) ++ [V.int 0]))) L = some (.lst (.int (toI (ws.getD 0 Str.empty)) :: .int (toI (ws.getD 1 Str.empty)) :: .int (num3 ws) :: r)) := by
          rw [upd_same, hr3]
        have sL : Same H (upd (upd H' q (.lst [V.int 0])) L (.lst (ws.map (fun z => V.int (toI z)) ++ [V.int 0]))) := (s1.trans s2).trans ((Same.put nq).trans (Same.put nL))
        refine ⟨_, rfl, rfl, L, _, _, _, _, rfl, hL, _, _, rfl, rfl, _, rfl, ?_⟩
        have df := due_fit hin (bad_none all)
        refine ite2 (fun h => ?_) (fun h => ?_)
        · have h' := of_decide_eq_true h
          rw [if_pos h'] at df
          refine ⟨_, rfl, rfl, L, _, _, _, _, rfl, hL, by show 2 ≤ sizeLine; decide, fun u nu => ?_⟩
          refine k _ _ (sL.trans (Same.put nu)) ?_
          rw [df]
          exact .bad upd_same
        · rw [if_neg (fun q => h (decide_eq_true q))] at df
          refine ⟨_, rfl, L, _, _, _, rfl, rfl, SqL.of hL, atI_nat (j := 0) rfl, _, rfl, L, _, _, _, rfl, rfl, SqL.of hL, atI_nat (j := 1) rfl, _, rfl, L, _, _, _, rfl, rfl, SqL.of hL, atI_nat (j := 2) rfl, by show 3 ≤ sizeLine; decide, fun u nu => ⟨by show 2 ≤ sizeLine; decide, fun v nv => ?_⟩⟩
          refine k _ _ (sL.trans ((Same.put nu).trans (Same.put nv))) ?_
          rw [df]
          exact .ring upd_same ((Same.put nv) _ _ upd_same)
end
end K40
/-! part M40 -/
set_option Elab.async false
set_option linter.all false
set_option maxRecDepth 100000
set_option maxHeartbeats 4000000
namespace K40
open PySem L2 GX
/-- the fields of a torus, in the order in which __init__ stores them -/
def tf (w h t : Int) : List (Str × V) := putF "twist" (.int t) (putF "height" (.int h) (putF "width" (.int w) []))
theorem tf_eq (w h t : Int) : tf w h t = ([("width", V.int w), ("height", V.int h), ("twist", V.int t)] : List (Str × V)) := by
  have k1 : ¬ (("width" : Str) = "height") := by decide +kernel
  have k2 : ¬ (("width" : Str) = "twist") := by decide +kernel
  have k3 : ¬ (("height" : Str) = "twist") := by decide +kernel
  show putF "twist" (.int t) (if ("width" : Str) = "height" then [(("width" : Str), V.int h)] else (("width" : Str), V.int w) :: putF "height" (.int h) []) = _
  rw [if_neg k1]
  show (if ("width" : Str) = "twist" then _ else (("width" : Str), V.int w) :: putF "twist" (.int t) (putF "height" (.int h) [])) = _
  rw [if_neg k2]
  show (("width" : Str), V.int w) :: (if ("height" : Str) = "twist" then _ else (("height" : Str), V.int h) :: putF "twist" (.int t) []) = _
  rw [if_neg k3]
  rfl
theorem tf_w (w h t : Int) : (tf w h t).lookup ("width" : Str) = some (.int w) := by
  unfold tf
  rw [lookup_putF, if_neg (by decide +kernel), lookup_putF, if_neg (by decide +kernel), lookup_putF, if_pos rfl]
theorem tf_h (w h t : Int) : (tf w h t).lookup ("height" : Str) = some (.int h) := by
  unfold tf
  rw [lookup_putF, if_neg (by decide +kernel), lookup_putF, if_pos rfl]
theorem tf_t (w h t : Int) : (tf w h t).lookup ("twist" : Str) = some (.int t) := by
  unfold tf
  rw [lookup_putF, if_pos rfl]
theorem tf_no {w h t : Int} {m : Str} (h1 : ¬ m = "twist") (h2 : ¬ m = "height") (h3 : ¬ m = "width") : (tf w h t).lookup m = none := by
  unfold tf
  rw [lookup_putF, if_neg h1, lookup_putF, if_neg h2, lookup_putF, if_neg h3]
  rfl
/-- a torus stands at p -/
structure TorAt (C : Addr) (H : Hp) (p : Addr) (w h t : Int) : Prop where
  ex : ∃ dx, H p = some (.ins C dx (tf w h t))
theorem TorAt.same {C : Addr} {H H' : Hp} {p : Addr} {w h t : Int} (T : TorAt C H p w h t) (s : Same H H') : TorAt C H' p w h t := by
  obtain ⟨dx, e⟩ := T.ex
  exact ⟨dx, s _ _ e⟩
theorem TorAt.kp {C : Addr} {H H' : Hp} {p b : Addr} {w h t : Int} {n : Nat} (T : TorAt C H p w h t) (B : BagAt H b n) (s : Kp b H H') : TorAt C H' p w h t := by
  obtain ⟨dx, e⟩ := T.ex
  obtain ⟨L, ns, i, cell, mixed, cnt, h1, _⟩ := B.ex
  exact ⟨dx, s _ _ e (ne_of e h1 (by intro z; cases z))⟩
/-- the exception's own dict -/
def atF (r : Int) : List (Str × V) := [("at", .int r)]
/-- what is asked of the exception class and of BOUNDS -/
structure TxtE (P : Program) (w : World) (K : PySem.W.Frag) (mg : Str → Option Value) (CB fB D : Addr) : Prop where
  x_BadTorus : Exs P K mg "ValueError" "ValueError.__new__" "ValueError.__init__" [.type "ValueError", .type "Exception", .type "BaseException", .type "object"] CB fB "at"
  r_BadTorus : ExR K mg "BadTorus" CB
  m_BOUNDS : mg "BOUNDS" = some (.ref D)
  k_text : KDct K w D "text" (.int 60000)
def spInit (C CB : Addr) : Sp := fun vs H Q E => ∃ (x dx : Addr) (w h t : Int), vs = [.ref x, .int w, .int h, .int t] ∧ H x = some (.ins C dx []) ∧
  (rangeI w h t = 3 → Q .non (upd H x (.ins C dx (tf w h t)))) ∧ (rangeI w h t < 3 → ∀ d, H d = none → E (.ref CB) (some d) (upd H d (.xd (atF (rangeI w h t)))))
def sep : Str := " "
def spRead (C CB : Addr) : Sp := fun vs H Q E => ∃ (z : Str), vs = [.str z] ∧ z.length ≤ 1000 ∧ (∀ u ∈ Txt.split z sep, WordOk u) ∧
  (∀ a b c, due (Txt.split z sep) = .inr (a, b, c) → ∀ p H', Same H H' → H p = none → TorAt C H' p a b c → Q (.ref p) H') ∧
  (∀ r, due (Txt.split z sep) = .inl r → ∀ d H', Same H H' → H d = none → H' d = some (.xd (atF r)) → E (.ref CB) (some d) H')
section
variable {P : Program} {w : World} {K : PySem.W.Frag} {mg : Str → Option Value} {base : Heap} {C CB fB DBOUNDS : Addr} {f : Addr} {fd : FuncData}
theorem ok_init {dvs : List V} (F : FunD K "__init__" "Torus.__init__" (defArgs s_Torus___init__) (defBody s_Torus___init__) (defScope s_Torus___init__) dvs [] f fd) (T : Txt K mg C CB) (TE : TxtE P w K mg CB fB DBOUNDS) : FnOk P w K mg base (L2N.CX P w) 1 f fd ["self", "width", "height", "twist"] (spInit C CB) := by
  refine F.ok sc_Torus___init__ (fun vs H Q E h => ?_) (fun cdv A outer s H vs Q E hr h => ?_)
  · obtain ⟨x, dx, a, b, c, rfl, _⟩ := h
    rfl
  · obtain ⟨x, dx, a, b, c, rfl, hx, kq, ke⟩ := h
    have nd := sc_Torus___init__.nd
    have tk := L2N.takes_of (X := cxOf (L2N.CX P w) P w K mg base ["self", "width", "height", "twist"] "Torus.__init__" (defScope s_Torus___init__) f cdv A outer s H E) rfl rfl rfl rfl
    refine ⟨_, (pss_cons (ps_if (pt_cmpR op_lt (pv 1) pe_int (nomark _))
      (pss_one (L2N.ps_raise rfl tk (pmk_ex PySem.F.excBase_ValueError PySem.W.kxs_ValueError PySem.F.store_ValueError TE.x_BadTorus TE.r_BadTorus hr (pa_cons pe_int pa_nil) rfl)))
      pss_nil)
    (pss_cons (ps_if (pt_cmpR op_lt (pv 2) pe_int (nomark _))
      (pss_one (L2N.ps_raise rfl tk (pmk_ex PySem.F.excBase_ValueError PySem.W.kxs_ValueError PySem.F.store_ValueError TE.x_BadTorus TE.r_BadTorus hr (pa_cons pe_int pa_nil) rfl)))
      pss_nil)
    (pss_cons (ps_if (pt_not (pt_chain op_le op_lt pe_int (pv 3) (pv 1)))
      (pss_one (L2N.ps_raise rfl tk (pmk_ex PySem.F.excBase_ValueError PySem.W.kxs_ValueError PySem.F.store_ValueError TE.x_BadTorus TE.r_BadTorus hr (pa_cons pe_int pa_nil) rfl)))
      pss_nil)
    (pss_cons (ps_fld (pv 0) (pv 1) rfl)
    (pss_cons (ps_fld (pv 0) (pv 2) rfl)
    (pss_one (ps_fld (pv 0) (pv 3) rfl))))))), ?_⟩
    refine ⟨_, rfl, _, _, rfl, rfl, _, rfl, ?_⟩
    refine ite2 (fun h1 => ?_) (fun h1 => ?_)
    · have e : rangeI a b c = 0 := if_pos (of_decide_eq_true h1)
      rw [e] at ke
      exact ⟨_, rfl, ke (by decide)⟩
    have h1' : ¬ a < 1 := fun q => h1 (decide_eq_true q)
    refine ⟨_, rfl, _, _, rfl, rfl, _, rfl, ?_⟩
    refine ite2 (fun h2 => ?_) (fun h2 => ?_)
    · have e : rangeI a b c = 1 := (if_neg h1').trans (if_pos (of_decide_eq_true h2))
      rw [e] at ke
      exact ⟨_, rfl, ke (by decide)⟩
    have h2' : ¬ b < 1 := fun q => h2 (decide_eq_true q)
    have e0 : rangeI a b c = if 0 ≤ c ∧ c < a then 3 else 2 := (if_neg h1').trans (if_neg h2')
    rw [e0] at ke kq
    refine ⟨_, rfl, _, _, rfl, rfl, _, rfl, ?_⟩
    refine ite2 (fun h3 => ?_) (fun h3 => ?_)
    · have h3' : 0 ≤ c := of_decide_eq_true h3
      refine ⟨_, rfl, _, _, rfl, rfl, _, rfl, ?_⟩
      cases h4 : decide (c < a) with
      | true =>
        have h4' : c < a := of_decide_eq_true h4
        rw [if_pos ⟨h3', h4'⟩] at kq
        refine iteF ?_
        have hd : ∀ {o : HO}, (upd H x o) x = some o := upd_same
        refine ⟨_, rfl, _, rfl, x, C, dx, _, rfl, hx, T.cl, T.nW, (by show 0 < 1000; decide), ?_⟩
        refine ⟨_, rfl, _, rfl, x, C, dx, _, rfl, upd_same, T.cl, T.nH, (by show 1 < 1000; decide), ?_⟩
        refine ⟨_, rfl, _, rfl, x, C, dx, _, rfl, upd_same, T.cl, T.nT, ?_, ?_⟩
        · have z : ¬ (("width" : Str) = "height") := by decide +kernel
          show (if ("width" : Str) = "height" then _ else (("width" : Str), V.int a) :: putF "height" (.int b) []).length < 1000
          rw [if_neg z]
          show 2 < 1000
          decide
        · have e1 : ∀ (o1 o2 o3 : HO), upd (upd (upd H x o1) x o2) x o3 = upd H x o3 := fun o1 o2 o3 => by
            funext q
            by_cases e : q = x
            · rw [e, upd_same, upd_same]
            · rw [upd_ne e, upd_ne e, upd_ne e, upd_ne e]
          have k := kq rfl
          rw [← e1 (.ins C dx (putF "width" (.int a) [])) (.ins C dx (putF "height" (.int b) (putF "width" (.int a) [])))] at k
          exact k
      | false =>
        have h4' : ¬ c < a := of_decide_eq_false h4
        rw [if_neg (fun q => h4' q.2)] at ke
        refine iteT ?_
        exact ⟨_, rfl, ke (by decide)⟩
    · rw [if_neg (fun q => h3 (decide_eq_true q.1))] at ke
      refine ⟨_, rfl, ?_⟩
      refine iteT ?_
      exact ⟨_, rfl, ke (by decide)⟩
end
end K40
/-! part Q40 -/
set_option Elab.async false
set_option linter.all false
set_option maxRecDepth 100000
set_option maxHeartbeats 4000000
namespace K40
open PySem L2 GX
theorem ws_at {ws : List Str} {k : Nat} (h : k < ws.length) : atI (ws.map V.str) (k : Int) = some (.str (ws.getD k Str.empty)) := by
  refine atI_nat ?_
  rw [List.getElem?_map, List.getElem?_eq_getElem h]
  simp [List.getD, List.getElem?_eq_getElem h]
theorem ws_get {ws : List Str} {k : Nat} (h : k < ws.length) : ws[k]? = some (ws.getD k Str.empty) := by
  simp [List.getD, List.getElem?_eq_getElem h]
theorem num3_3 {ws : List Str} (h : ws.length = 3) : num3 ws = toI (ws.getD 2 Str.empty) := if_pos h
theorem num3_2 {ws : List Str} (h : ¬ ws.length = 3) : num3 ws = 0 := if_neg h
theorem map_at {ws : List Str} {i : Nat} {x : V} (hx : (ws.map V.str)[i]? = some x) : ∃ z, ws[i]? = some z ∧ x = V.str z := by
  rw [List.getElem?_map] at hx
  cases e : ws[i]? with
  | none => rw [e] at hx; cases hx
  | some z => rw [e] at hx; exact ⟨z, rfl, (Option.some.inj hx).symm⟩
section
variable {P : Program} {w : World} {K : PySem.W.Frag} {mg : Str → Option Value} {base : Heap} {C CB fB DBOUNDS : Addr} {f : Addr} {fd : FuncData}
theorem ok_read (F : Fun K "read" "Torus.read" s_Torus_read f fd) (T : Txt K mg C CB) (TE : TxtE P w K mg CB fB DBOUNDS) (g_is_number_word : CalN P w K mg base 1 "is_number_word" 1 [] (sk spNum))
    (n_Torus_3 : NewN P w K mg base 1 "Torus" C 3 [] (sk (spInit C CB))) : FnOk P w K mg base (L2N.CX P w) 3 f fd ["text"] (spRead C CB) := by
  obtain ⟨oc, od, kV, doc, pm, an, cdv, ct, osl, rfl, lk, hcd⟩ := F.ex
  refine fn_of lk hcd sc_Torus_read (fun vs H Q E h => ?_) fun A outer s H vs Q E hr h => ?_
  · obtain ⟨z, rfl, _⟩ := h
    rfl
  · obtain ⟨z, rfl, hz, hw, kq, ke⟩ := h
    have nd := sc_Torus_read.nd
    have tk := L2N.takes_of (X := cxOf (L2N.CX P w) P w K mg base ["text", "words", "at", "word", "twist"] "Torus.read" (defScope s_Torus_read) f cdv A outer s H E) rfl rfl rfl rfl
    refine ⟨_, (pss_cons (ps_if (pt_cmpR op_gt (pe_callB call_len rfl T.m_len (by decide +kernel) (pa_cons (pv 0) pa_nil)) (pe_ix ix_kdict (pe_glob (v := .ref DBOUNDS) (u := .ref DBOUNDS) rfl TE.m_BOUNDS rfl) pe_str (fun _ _ => rfl)) (nomark _))
      (pss_one ps_never)
      pss_nil)
    (pss_cons (ps_set (i := 1) nd rfl (Or.inl rfl) (pe_split (pv 0) pe_str))
    (pss_cons (ps_if (pt_not (pt_chain op_le op_le pe_int (pe_callB call_len rfl T.m_len (by decide +kernel) (pa_cons (pv 1) pa_nil)) pe_int))
      (pss_one (L2N.ps_raise rfl tk (pmk_ex PySem.F.excBase_ValueError PySem.W.kxs_ValueError PySem.F.store_ValueError TE.x_BadTorus TE.r_BadTorus hr (pa_cons (pe_un un_neg pe_int) pa_nil) rfl)))
      pss_nil)
    (pss_cons (ps_for (passes_of rfl) rfl (pi_enum rfl T.m_enumerate (pa_cons (pv 1) pa_nil)) (pg_tup rfl (pgs_cons (pg_name (i := 2) nd rfl (Or.inl rfl)) (pgs_cons (pg_name (i := 3) nd rfl (Or.inl rfl)) pgs_nil)))
      (pss_one (ps_if (pt_not (pt_val (pn_f g_is_number_word hr (by decide) takes0N rfl (pa_cons (pv 3) pa_nil))))
        (pss_one (L2N.ps_raise rfl tk (pmk_ex PySem.F.excBase_ValueError PySem.W.kxs_ValueError PySem.F.store_ValueError TE.x_BadTorus TE.r_BadTorus hr (pa_cons (pv 2) pa_nil) rfl)))
        pss_nil)))
    (pss_cons (ps_set (i := 4) nd rfl (Or.inl rfl) (pe_ifExp (pt_cmpR op_eq (pe_callB call_len rfl T.m_len (by decide +kernel) (pa_cons (pv 1) pa_nil)) pe_int (nomark _)) (pe_callTy call_int_str rfl T.m_int (by decide +kernel) (pa_cons (pe_ix ix_list (pv 1) pe_int (fun _ _ => rfl)) pa_nil)) pe_int))
    (pss_one (ps_ret (pn_new n_Torus_3 hr (by decide) tk rfl (pa_cons (pe_callTy call_int_str rfl T.m_int (by decide +kernel) (pa_cons (pe_ix ix_list (pv 1) pe_int (fun _ _ => rfl)) pa_nil)) (pa_cons (pe_callTy call_int_str rfl T.m_int (by decide +kernel) (pa_cons (pe_ix ix_list (pv 1) pe_int (fun _ _ => rfl)) pa_nil)) (pa_cons (pv 4) pa_nil))))))))))), ?_⟩
    refine ⟨_, rfl, _, _, rfl, ⟨len_le hz, rfl⟩, DBOUNDS, _, _, rfl, rfl, TE.k_text, _, _, rfl, rfl, _, rfl, ?_⟩
    refine ite2 (fun h => absurd (of_decide_eq_true h) (by omega)) (fun _ => ?_)
    have hz2 : z.length + 2 ≤ sizeLine := Nat.le_trans (by omega : z.length + 2 ≤ 1002) (by decide)
    refine ⟨_, rfl, ⟨_, rfl⟩, z, _, rfl, rfl, rfl, hz2, fun p np => ?_⟩
    generalize hws : Txt.split z sep = ws at kq ke hw
    have hpe : (upd H p (.lst ((Txt.split z sep).map V.str))) p = some (.lst (ws.map V.str)) := by rw [upd_same, hws]
    have s0 : Same H (upd H p (.lst ((Txt.split z sep).map V.str))) := Same.put np
    have hlen : (ws.map V.str).length = ws.length := List.length_map _
    have out : (ws.length < 2 ∨ 3 < ws.length) → ∀ d, (upd H p (.lst ((Txt.split z sep).map V.str))) d = none → E (.ref CB) (some d) (upd (upd H p (.lst ((Txt.split z sep).map V.str))) d (.xd (atF (-1)))) := fun hh d hd =>
      ke (-1) (due_len hh) d _ (s0.trans (Same.put hd)) (s0.free hd) upd_same
    refine ⟨_, rfl, _, _, rfl, .inl ⟨_, SqL.of hpe, rfl⟩, _, _, rfl, rfl, _, rfl, ?_⟩
    refine ite2 (fun h2 => ?_) (fun h2 => ?_)
    · have h2' := of_decide_eq_true h2
      refine ⟨_, _, rfl, rfl, _, rfl, ?_⟩
      cases h3 : decide (((ws.map V.str).length : Int) ≤ 3) with
      | false =>
        have h3' := of_decide_eq_false h3
        refine iteT ?_
        exact ⟨_, rfl, _, rfl, out (.inr (by omega))⟩
      | true =>
        have h3' := of_decide_eq_true h3
        have hin : ¬ (ws.length < 2 ∨ 3 < ws.length) := by omega
        refine iteF ?_
        refine ⟨_, rfl, p, _, rfl, SqL.of hpe, ?_⟩
        refine for_enum (K := K) (a := p) (xs := ws.map V.str) (fun i σ H2 => ∃ x y, σ = [some (.str z), some (.ref p), x, y, none] ∧ Same H H2 ∧ H2 p = some (.lst (ws.map V.str)) ∧ ∀ (j : Nat) (z : Str), j < i → ws[j]? = some z → numW z = true)
          ⟨_, _, rfl, s0, hpe, fun j z hj => absurd hj (Nat.not_lt_zero j)⟩ (fun i σ H2 _ ⟨_, _, _, _, hp2, _⟩ => SqL.of hp2) ?_ ?_
        · rintro i x U σ H2 hx nU ⟨_, _, rfl, s1, hp2, hb⟩
          obtain ⟨u, hu, rfl⟩ := map_at hx
          have wk := hw u (List.mem_of_getElem? hu)
          have sU : Same H2 (upd H2 U (.tup [.int (i : Nat), .str u])) := Same.put nU
          refine ⟨U, _, rfl, SqT.of upd_same, rfl, _, _, rfl, _, _, rfl, rfl, ?_⟩
          refine ⟨_, rfl, rfl, u, rfl, by have := wk.len; omega, _, rfl, ?_⟩
          cases hn : numW u with
          | true =>
            refine iteF ?_
            refine ⟨_, _, rfl, s1.trans sU, sU _ _ hp2, fun j y hj hy => ?_⟩
            by_cases e : j < i
            · exact hb j y e hy
            · have e : j = i := by omega
              subst e
              rw [hu] at hy
              cases hy
              exact hn
          | false =>
            refine iteT ?_
            exact ⟨_, rfl, _, rfl, fun d hd => ke i (due_bad hin (bad_some hu hn hb)) d _ ((s1.trans sU).trans (Same.put hd)) ((s1.trans sU).free hd) upd_same⟩
        · rintro σ H2 ⟨x, y, rfl, s1, hp2, hb⟩
          have all : ∀ (j : Nat) (z : Str), ws[j]? = some z → numW z = true := fun j z hj => hb j z (by rw [hlen]; exact (List.getElem?_eq_some_iff.mp hj).1) hj
          have df := due_fit hin (bad_none all)
          have num : ∀ k, k < ws.length → PySem.intText? (ws.getD k Str.empty) = some (toI (ws.getD k Str.empty)) ∧ (ws.getD k Str.empty).length ≤ 640 := fun k hk => by
            have g := ws_get hk
            have wk := hw _ (List.mem_of_getElem? g)
            exact ⟨(wk.num (all _ _ g)).1, by have := wk.len; omega⟩
          have fin : ∀ (H' : Hp) (σ' : L2.St) (c : Int), H' = H2 → c = num3 ws → σ' = [some (.str z), some (.ref p), x, y, some (.int c)] → (tRet (tNew C (sk (spInit C CB)) (fun cls d _ H => E cls d H)
              (tCons (tCB (fun xs H Q => ∃ a n, xs = [V.str a] ∧ PySem.intText? a = some n ∧ a.length ≤ 640 ∧ Q (V.int n) H) (tCons (tOp (rIxL K) (tVar 1) (tC (V.int 0))) tNil))
              (tCons (tCB (fun xs H Q => ∃ a n, xs = [V.str a] ∧ PySem.intText? a = some n ∧ a.length ≤ 640 ∧ Q (V.int n) H) (tCons (tOp (rIxL K) (tVar 1) (tC (V.int 1))) tNil)) (tCons (tVar 4) tNil))) tNil)) { nx := fun _ H' => Q .non H', rt := Q } σ' H' := by
            rintro H' σ' c rfl rfl rfl
            have n0 := num 0 (by omega)
            have n1 := num 1 (by omega)
            refine ⟨_, rfl, p, _, _, _, rfl, rfl, SqL.of hp2, ws_at (k := 0) (by omega), _, _, rfl, n0.1, n0.2, _, rfl, p, _, _, _, rfl, rfl, SqL.of hp2, ws_at (k := 1) (by omega), _, _, rfl, n1.1, n1.2, _, rfl, ?_⟩
            intro x dx nx ndx nex
            have sN : Same H' (upd (upd H' dx (.own x)) x (.ins C dx [])) := fun b o e => by
              rw [upd_ne (ne_of_none e nx), upd_ne (ne_of_none e ndx)]
              exact e
            refine ⟨rfl, x, dx, _, _, _, rfl, upd_same, fun h3 => ⟨rfl, ?_⟩, fun h3 d hd => ?_⟩
            · rw [if_neg (by omega)] at df
              refine kq _ _ _ df x _ (fun b o e => ?_) (s1.free nx) ⟨dx, upd_same⟩
              rw [upd_ne (ne_of_none (s1 _ _ e) nx)]
              exact (s1.trans sN) _ _ e
            · rw [if_pos h3] at df
              exact ke _ df d _ ((s1.trans sN).trans (Same.put hd)) ((s1.trans sN).free hd) upd_same
          refine ⟨_, rfl, _, _, rfl, .inl ⟨_, SqL.of hp2, rfl⟩, rfl, _, rfl, ?_⟩
          refine ite2 (fun h => ?_) (fun h => ?_)
          · have h' := of_decide_eq_true h
            have l3 : ws.length = 3 := by
              have := V.int.inj h'
              omega
            have n2 := num 2 (by omega)
            refine ⟨_, rfl, p, _, _, _, rfl, rfl, SqL.of hp2, ws_at (k := 2) (by omega), _, _, rfl, n2.1, n2.2, ?_⟩
            exact fin _ _ _ rfl (num3_3 l3).symm rfl
          · have l3 : ¬ ws.length = 3 := fun q => h (decide_eq_true (by rw [hlen, q]; rfl))
            exact fin _ _ 0 rfl (num3_2 l3).symm rfl
    · have h2' : ¬ ((2 : Int) ≤ ((ws.map V.str).length : Int)) := fun q => h2 (decide_eq_true q)
      refine ⟨_, rfl, ?_⟩
      refine iteT ?_
      exact ⟨_, rfl, _, rfl, out (.inl (by omega))⟩
end
end K40
/-! part R40 -/
set_option Elab.async false
set_option linter.all false
set_option maxRecDepth 100000
set_option maxHeartbeats 4000000
namespace K40
open PySem L2 GX
/-- the torus, told as a text -/
def txtT (a b c : Int) : Str := (((((toString a : String) : Str) ++ (" " : Str)) ++ ((toString b : String) : Str)) ++ (" " : Str)) ++ ((toString c : String) : Str)
def zzB (a b c i j : Int) : Bool := PyData.eqv (.tuple [.int ((i - j / b * c) % a), .int (j - j / b * b)]) (.tuple [.int 0, .int 0])
theorem strT {a : Int} (h0 : 0 ≤ a) (h1 : a ≤ 1000) : ((toString a : String) : Str) = nT a.toNat ∧ ((toString a : String) : Str).length ≤ 10 ∧ a.natAbs.log2 < 1920 := by
  have e : ((a.toNat : Nat) : Int) = a := Int.toNat_of_nonneg h0
  have e1 : ((toString a : String) : Str) = nT a.toNat := by unfold nT; rw [e]
  refine ⟨e1, ?_, Nat.lt_of_le_of_lt (Nat.log2_le_self _) (by omega)⟩
  rw [e1]
  exact (nT_ok (by omega)).1.len
theorem str_empty (x : Str) : Str.empty ++ x = x := TL.ext_tl (by rw [TL.tl_append]; rfl)
theorem len_app (x y : Str) : (x ++ y).length = x.length + y.length := Array.size_append
def spWritten (C : Addr) : Sp := fun vs H Q _ => ∃ (p : Addr) (a b c i j : Int), vs = [.ref p, .int i, .int j] ∧ TorAt C H p a b c ∧ Good a b c ∧ ∀ q, H q = none → Q (.ref q) (upd H q (.tup (siteV a b c i j)))
def spCloses (C : Addr) : Sp := fun vs H Q _ => ∃ (p : Addr) (a b c i j : Int), vs = [.ref p, .int i, .int j] ∧ TorAt C H p a b c ∧ Good a b c ∧ ∀ H', Same H H' → Q (.bl (zzB a b c i j)) H'
def spPSites (C : Addr) : Sp := fun vs H Q _ => ∃ (p : Addr) (a b c : Int), vs = [.ref p] ∧ TorAt C H p a b c ∧ Good a b c ∧ a * b ≤ 150 ∧ ∀ q H', Same H H' → H q = none → SitesAt H' q b (a * b).toNat → Q (.ref q) H'
def spText (C : Addr) : Sp := fun vs H Q _ => ∃ (p : Addr) (a b c : Int), vs = [.ref p] ∧ TorAt C H p a b c ∧ Good a b c ∧ Q (.str (txtT a b c)) H
def eqB (a b c a' b' c' : Int) : Bool := decide (a = a') && (decide (b = b') && decide (c = c'))
def spEq (K : PySem.W.Frag) (C : Addr) : Sp := fun vs H Q _ => ∃ (p : Addr) (y : V) (a b c : Int), vs = [.ref p, y] ∧ TorAt C H p a b c ∧
  ((∃ (q : Addr) (a' b' c' : Int), y = .ref q ∧ TorAt C H q a' b' c' ∧ Q (.bl (eqB a b c a' b' c')) H) ∨ ((∃ t, TyX K H y t ∧ PySem.W.kitOne K t (.ref C) = some false) ∧ Q (.bl false) H))
section
variable {P : Program} {w : World} {K : PySem.W.Frag} {mg : Str → Option Value} {base : Heap} {C CB fB DBOUNDS : Addr} {f : Addr} {fd : FuncData}
theorem ok_written (F : Fun K "written" "Torus.written" s_Torus_written f fd) (T : Txt K mg C CB) : FnOk P w K mg base CX0 1 f fd ["self", "i", "j"] (spWritten C) := by
  refine F.ok sc_Torus_written (fun vs H Q E h => ?_) (fun cdv A outer st H vs Q E hr h => ?_)
  · obtain ⟨p, a, b, c, i, j, rfl, _⟩ := h
    rfl
  · obtain ⟨p, a, b, c, i, j, rfl, R, G, k⟩ := h
    have nd := sc_Torus_written.nd
    obtain ⟨a0, a1, b0, b1, c0, c1⟩ := G
    obtain ⟨dx, hp⟩ := R.ex
    refine ⟨_, (pss_cons (ps_set (i := 3) nd rfl (Or.inl rfl) (pe_op op_fdiv (pv 2) (pe_fld (pv 0) rfl)))
    (pss_one (ps_ret (pe_tup (pa_cons (pe_op op_mod (pe_op op_sub (pv 1) (pe_op op_mul (pv 3) (pe_fld (pv 0) rfl))) (pe_fld (pv 0) rfl)) (pa_cons (pe_op op_sub (pv 2) (pe_op op_mul (pv 3) (pe_fld (pv 0) rfl))) pa_nil)))))), ?_⟩
    refine ⟨_, rfl, _, rfl, p, C, dx, _, _, rfl, hp, T.cl, T.nH, tf_h a b c, _, _, rfl, rfl, ⟨b0, by show b < 1073741824; omega⟩, ?_⟩
    refine ⟨_, rfl, _, rfl, _, rfl, p, C, dx, _, _, rfl, hp, T.cl, T.nT, tf_t a b c, _, _, rfl, rfl, .inr ⟨by omega, by omega⟩, _, _, rfl, rfl, _, rfl, p, C, dx, _, _, rfl, hp, T.cl, T.nW, tf_w a b c, _, _, rfl, rfl, a0, ?_⟩
    refine ⟨_, rfl, _, rfl, _, rfl, p, C, dx, _, _, rfl, hp, T.cl, T.nH, tf_h a b c, _, _, rfl, rfl, .inr ⟨by omega, by omega⟩, _, _, rfl, rfl, by show 2 ≤ sizeLine; decide, fun q nq => ?_⟩
    exact k q nq
theorem ok_closes (F : Fun K "closes" "Torus.closes" s_Torus_closes f fd) (T : Txt K mg C CB) (m_written : MetN P w K mg base 1 C "written" 3 (sk (spWritten C))) : FnOk P w K mg base CX0 2 f fd ["self", "i", "j"] (spCloses C) := by
  refine F.ok sc_Torus_closes (fun vs H Q E h => ?_) (fun cdv A outer st H vs Q E hr h => ?_)
  · obtain ⟨p, a, b, c, i, j, rfl, _⟩ := h
    rfl
  · obtain ⟨p, a, b, c, i, j, rfl, R, G, k⟩ := h
    have nd := sc_Torus_closes.nd
    obtain ⟨dx, hp⟩ := R.ex
    refine ⟨_, (pss_one (ps_ret (pe_cmpR (op_eqD hr.units) (pn_m T.cl m_written hr (by decide) takes0N (pv 0) (pa_cons (pv 1) (pa_cons (pv 2) pa_nil))) (pe_tup (pa_cons pe_int (pa_cons pe_int pa_nil))) (nomark _)))), ?_⟩
    refine ⟨_, rfl, p, dx, _, rfl, hp, tf_no (by decide +kernel) (by decide +kernel) (by decide +kernel), _, rfl, _, rfl, rfl, p, a, b, c, i, j, rfl, R, G, fun q nq => ?_⟩
    refine ⟨by show 2 ≤ sizeLine; decide, fun u nu => ?_⟩
    have e1 := (Same.put (o := .tup [V.int 0, V.int 0]) nu) _ _ (upd_same (H := H) (a := q) (o := .tup (siteV a b c i j)))
    refine ⟨_, _, .tup (SqT.of e1) (.cons (.int _) (.cons (.int _) .nil)), .tup (SqT.of upd_same) (.cons (.int _) (.cons (.int _) .nil)), rfl, rfl, ?_⟩
    exact k _ ((Same.put nq).trans (Same.put nu))
theorem ok_text (F : Fun K "text" "Torus.text" s_Torus_text f fd) (T : Txt K mg C CB) : FnOk P w K mg base CX0 1 f fd ["self"] (spText C) := by
  refine F.ok sc_Torus_text (fun vs H Q E h => ?_) (fun cdv A outer st H vs Q E hr h => ?_)
  · obtain ⟨p, a, b, c, rfl, _⟩ := h
    rfl
  · obtain ⟨p, a, b, c, rfl, R, G, k⟩ := h
    have nd := sc_Torus_text.nd
    obtain ⟨a0, a1, b0, b1, c0, c1⟩ := G
    obtain ⟨dx, hp⟩ := R.ex
    have la := strT (by omega : 0 ≤ a) a1
    have lb := strT (by omega : 0 ≤ b) b1
    have lc := strT c0 (by omega : c ≤ 1000)
    have lz : ∀ n : Nat, n ≤ 100 → n ≤ sizeLine := fun n h => Nat.le_trans h (by decide)
    refine ⟨_, (pss_one (ps_ret (pe_joined (PJ.cons (pe_fmt (pe_fld (pv 0) rfl)) (PJ.cons pe_str (PJ.cons (pe_fmt (pe_fld (pv 0) rfl)) (PJ.cons pe_str (PJ.cons (pe_fmt (pe_fld (pv 0) rfl)) PJ.nil)))))))), ?_⟩
    refine ⟨_, rfl, p, C, dx, _, _, rfl, hp, T.cl, T.nW, tf_w a b c, .inr ⟨_, rfl, la.2.2, _, rfl, ?_, ?_⟩⟩
    · rw [str_empty]
      exact lz _ (by omega)
    refine ⟨_, rfl, ?_, ?_⟩
    · rw [str_empty, len_app]
      exact lz _ (by have : ((" " : Str)).length = 1 := by decide +kernel
                     omega)
    refine ⟨_, rfl, p, C, dx, _, _, rfl, hp, T.cl, T.nH, tf_h a b c, .inr ⟨_, rfl, lb.2.2, _, rfl, ?_, ?_⟩⟩
    · rw [str_empty, len_app, len_app]
      exact lz _ (by have : ((" " : Str)).length = 1 := by decide +kernel
                     omega)
    refine ⟨_, rfl, ?_, ?_⟩
    · rw [str_empty, len_app, len_app, len_app]
      exact lz _ (by have : ((" " : Str)).length = 1 := by decide +kernel
                     omega)
    refine ⟨_, rfl, p, C, dx, _, _, rfl, hp, T.cl, T.nT, tf_t a b c, .inr ⟨_, rfl, lc.2.2, _, rfl, ?_, ?_⟩⟩
    · rw [str_empty, len_app, len_app, len_app, len_app]
      exact lz _ (by have : ((" " : Str)).length = 1 := by decide +kernel
                     omega)
    have e : txtT a b c = ((((Str.empty ++ ((toString a : String) : Str)) ++ (" " : Str)) ++ ((toString b : String) : Str)) ++ (" " : Str)) ++ ((toString c : String) : Str) := by rw [str_empty]; rfl
    rw [e] at k
    exact k
theorem ok_eq (F : Fun K "__eq__" "Torus.__eq__" s_Torus___eq__ f fd) (T : Txt K mg C CB) : FnOk P w K mg base CX0 1 f fd ["self", "other"] (spEq K C) := by
  refine F.ok sc_Torus___eq__ (fun vs H Q E h => ?_) (fun cdv A outer st H vs Q E hr h => ?_)
  · obtain ⟨p, y, a, b, c, rfl, _⟩ := h
    rfl
  · obtain ⟨p, y, a, b, c, rfl, R, h⟩ := h
    have nd := sc_Torus___eq__.nd
    obtain ⟨dx, hp⟩ := R.ex
    refine ⟨_, (pss_cons (ps_if (pt_not (pt_val (pe_callB call_isi rfl T.m_isinstance (by decide +kernel) (pa_cons (pv 1) (pa_cons (pe_glob (v := V.ref _) rfl T.g_Torus rfl) pa_nil)))))
      (pss_one (ps_ret pe_bl))
      pss_nil)
    (pss_one (ps_ret (pe_and (pe_cmpR op_eq (pe_fld (pv 0) rfl) (pe_fld (pv 1) rfl) (nomark _)) (pe_and (pe_cmpR op_eq (pe_fld (pv 0) rfl) (pe_fld (pv 1) rfl) (nomark _)) (pe_one (pe_cmpR op_eq (pe_fld (pv 0) rfl) (pe_fld (pv 1) rfl) (nomark _)))))))), ?_⟩
    rcases h with ⟨q, a', b', c', rfl, R', k⟩ | ⟨⟨t, ty, kt⟩, k⟩
    · obtain ⟨dy, hq⟩ := R'.ex
      refine ⟨_, rfl, _, _, _, _, true, rfl, .own C, T.ownTy hq, T.isT, _, rfl, ?_⟩
      refine iteF ?_
      refine ⟨_, rfl, p, C, dx, _, _, rfl, hp, T.cl, T.nW, tf_w a b c, _, rfl, q, C, dy, _, _, rfl, hq, T.cl, T.nW, tf_w a' b' c', rfl, _, rfl, ?_⟩
      have dI : ∀ x y : Int, decide (V.int x = V.int y) = decide (x = y) := fun x y => by
        by_cases e : x = y
        · rw [e, decide_eq_true rfl, decide_eq_true rfl]
        · rw [decide_eq_false e, decide_eq_false fun z => e (V.int.inj z)]
      rw [dI]
      refine ite2 (fun h1 => ?_) (fun h1 => ?_)
      · refine ⟨_, rfl, p, C, dx, _, _, rfl, hp, T.cl, T.nH, tf_h a b c, _, rfl, q, C, dy, _, _, rfl, hq, T.cl, T.nH, tf_h a' b' c', rfl, _, rfl, ?_⟩
        rw [dI]
        refine ite2 (fun h2 => ?_) (fun h2 => ?_)
        · refine ⟨_, rfl, p, C, dx, _, _, rfl, hp, T.cl, T.nT, tf_t a b c, _, rfl, q, C, dy, _, _, rfl, hq, T.cl, T.nT, tf_t a' b' c', rfl, ?_⟩
          rw [dI]
          have e : eqB a b c a' b' c' = decide (c = c') := by unfold eqB; rw [h1, h2]; rfl
          rw [e] at k
          exact k
        · have h2' : decide (b = b') = false := by cases hh : decide (b = b') with
            | false => rfl
            | true => exact absurd hh h2
          have e : eqB a b c a' b' c' = false := by unfold eqB; rw [h1, h2']; rfl
          rw [e] at k
          exact k
      · have h1' : decide (a = a') = false := by cases hh : decide (a = a') with
          | false => rfl
          | true => exact absurd hh h1
        have e : eqB a b c a' b' c' = false := by unfold eqB; rw [h1']; rfl
        rw [e] at k
        exact k
    · refine ⟨_, rfl, _, _, _, _, false, rfl, .own C, ty, kt, _, rfl, ?_⟩
      refine iteT ?_
      exact k
end
end K40
/-! part S40 -/
set_option Elab.async false
set_option linter.all false
set_option maxRecDepth 100000
set_option maxHeartbeats 4000000
namespace K40
open PySem L2 GX
section
variable {P : Program} {w : World} {K : PySem.W.Frag} {mg : Str → Option Value} {base : Heap} {C CB fB DBOUNDS : Addr} {f : Addr} {fd : FuncData}
/-- the list at D holds the first n cells -/
def SiteL (H H' : Hp) (D : Addr) (b : Int) (n : Nat) : Prop := Same H H' ∧ ∃ ps : List Addr, H' D = some (.lst (ps.map V.ref)) ∧ ps.length = n ∧ ∀ (k : Nat) (a : Addr), ps[k]? = some a → H' a = some (.tup [.int ((k : Int) / b), .int ((k : Int) % b)])
theorem SiteL.more {H H' : Hp} {D q : Addr} {b : Int} {n : Nat} (S : SiteL H H' D b n) (nD : H D = none) (nq : H' q = none) {x y : Int} (hx : x = (n : Int) / b) (hy : y = (n : Int) % b) (hn : n < 1000) :
    ∃ acc, (upd H' q (.tup [.int x, .int y])) D = some (.lst acc) ∧ acc.length < sizeLine ∧ SiteL H (upd (upd H' q (.tup [.int x, .int y])) D (.lst (acc ++ [.ref q]))) D b (n + 1) := by
  obtain ⟨s1, ps, hD, hl, hps⟩ := S
  have nDq : D ≠ q := ne_of_none hD nq
  refine ⟨_, (upd_ne nDq).trans hD, ?_, Same.keepD (s1.trans (Same.put nq)) nD, ps ++ [q], ?_, ?_, ?_⟩
  · rw [List.length_map, hl]
    exact Nat.lt_of_lt_of_le hn (by decide)
  · rw [upd_same, List.map_append]
    rfl
  · rw [List.length_append, hl]
    rfl
  · intro k u hk
    rw [List.getElem?_append] at hk
    split at hk
    · have hb := hps k u hk
      have e1 : u ≠ D := ne_of hb hD (by intro z; cases z)
      have e2 : u ≠ q := ne_of_none hb nq
      rw [upd_ne e1, upd_ne e2]
      exact hb
    · rename_i hnl
      have e0 : k - ps.length = 0 := by
        have := (List.getElem?_eq_some_iff.mp hk).1
        simp only [List.length_cons, List.length_nil] at this
        omega
      rw [e0] at hk
      have eb : q = u := Option.some.inj hk
      subst eb
      have ek : k = n := by omega
      subst ek
      rw [upd_ne nDq.symm, upd_same, hx, hy]
theorem ok_psites (F : Fun K "sites" "Torus.sites" s_Torus_sites f fd) (T : Txt K mg C CB) : FnOk P w K mg base CX0 1 f fd ["self"] (spPSites C) := by
  refine F.ok sc_Torus_sites (fun vs H Q E h => ?_) (fun cdv A outer st H vs Q E hr h => ?_)
  · obtain ⟨p, a, b, c, rfl, _⟩ := h
    rfl
  · obtain ⟨p, a, b, c, rfl, R, G, hab, k⟩ := h
    have nd := sc_Torus_sites.nd
    obtain ⟨a0, a1, b0, b1, c0, c1⟩ := G
    obtain ⟨dx, hp⟩ := R.ex
    obtain ⟨an, rfl⟩ := Int.eq_ofNat_of_zero_le (by omega : 0 ≤ a)
    obtain ⟨bn, rfl⟩ := Int.eq_ofNat_of_zero_le (by omega : 0 ≤ b)
    have hab' : an * bn ≤ 150 := by
      have : ((an * bn : Nat) : Int) ≤ 150 := by rw [Int.natCast_mul]; exact hab
      omega
    refine ⟨_, (pss_one (ps_ret (pe_lc2 (own := [("i", 1), ("j", 2)]) (vs1 := [2]) (g := gName 1) (g1 := gName 2) (tt := tYes) (tt1 := tYes) rfl nd (pi_range1 rfl T.m_range (pa_cons (pe_fld (pv 0) rfl) pa_nil)) (blkOk_by (own := [("i", 1), ("j", 2)]) (N := ["self", "i", "j"]) (sc := defScope s_Torus_sites) (by decide +kernel)) (by decide) (fun _ _ _ _ _ => (pg_name (i := 1) nd rfl (Or.inl rfl))) (fun _ _ _ _ _ => pts_nil) (fun _ _ _ _ _ => (pi_range1 rfl T.m_range (pa_cons (show PE _ _ (tFld K (tVar 0) "height") from pe_fld (pv 0) rfl) pa_nil))) (fun _ _ _ _ _ => (pg_name (i := 2) nd rfl (Or.inl rfl))) (fun _ _ _ _ _ => pts_nil) (fun _ _ _ _ _ => (pe_tup (pa_cons (pv 1) (pa_cons (pv 2) pa_nil))))))), ?_⟩
    refine ⟨_, rfl, p, C, dx, _, _, rfl, hp, T.cl, T.nW, tf_w an bn c, _, rfl, by omega, by omega, fun D nD => ?_⟩
    refine ⟨fun i m H' => m = an - i ∧ i ≤ an ∧ SiteL H H' D bn (i * bn), ⟨an, rfl, Nat.zero_le _, ?_⟩, ?_⟩
    · rw [Nat.zero_mul]
      exact ⟨Same.put nD, [], upd_same, rfl, fun k a e => by simp at e⟩
    rintro i m H1 ⟨rfl, hi, S⟩
    by_cases hlt : i < an
    · refine .inr ⟨by show i < ((an : Int)).toNat; rw [Int.toNat_natCast]; exact hlt, fun H' => SiteL H H' D bn ((i + 1) * bn), fun H' S' => ⟨an - (i + 1), by omega, rfl, hlt, S'⟩, ?_⟩
      rintro x H2 ⟨rfl, rfl⟩
      refine ⟨rfl, tyes (iteT ?_)⟩
      have hp2 := S.1 _ _ hp
      refine ⟨_, rfl, p, C, dx, _, _, rfl, hp2, T.cl, T.nH, tf_h an bn c, _, rfl, by omega, by omega, ?_⟩
      refine ⟨fun j m H' => m = bn - j ∧ j ≤ bn ∧ SiteL H H' D bn (i * bn + j), ⟨bn, rfl, Nat.zero_le _, S⟩, ?_⟩
      rintro j m H3 ⟨rfl, hj, S3⟩
      by_cases hlj : j < bn
      · refine .inr ⟨by show j < ((bn : Int)).toNat; rw [Int.toNat_natCast]; exact hlj, fun H' => SiteL H H' D bn (i * bn + (j + 1)), fun H' S' => ⟨bn - (j + 1), by omega, rfl, hlj, S'⟩, ?_⟩
        rintro x H4 ⟨rfl, rfl⟩
        refine ⟨rfl, tyes (iteT ?_)⟩
        refine ⟨_, rfl, _, rfl, by show 2 ≤ sizeLine; decide, fun q nq => ?_⟩
        have hlim : i * bn + j < 1000 := by
          have : (i + 1) * bn ≤ an * bn := Nat.mul_le_mul_right _ hlt
          rw [Nat.succ_mul] at this
          omega
        have hb0 : (0 : Int) < (bn : Int) := by omega
        have e : ((i * bn + j : Nat) : Int) = (j : Int) + (i : Int) * (bn : Int) := by rw [Int.natCast_add, Int.natCast_mul, Int.add_comm]
        have ej0 : (j : Int) / (bn : Int) = 0 := Int.ediv_eq_zero_of_lt (by omega) (by omega)
        have ej1 : (j : Int) % (bn : Int) = j := Int.emod_eq_of_lt (by omega) (by omega)
        refine S3.more nD nq ?_ ?_ hlim
        · rw [e, Int.add_mul_ediv_right _ _ (by omega), ej0]
        · rw [e, Int.add_mul_emod_self_right, ej1, Int.zero_add]
      · have ej : j = bn := by omega
        subst ej
        refine .inl ⟨by show ((j : Int)).toNat ≤ j; rw [Int.toNat_natCast]; exact Nat.le_refl _, ?_⟩
        rw [Nat.succ_mul]
        exact S3
    · have ei : i = an := by omega
      subst ei
      refine .inl ⟨by show ((i : Int)).toNat ≤ i; rw [Int.toNat_natCast]; exact Nat.le_refl _, ?_⟩
      refine k D H1 S.1 nD ?_
      have e : ((i : Int) * (bn : Int)).toNat = i * bn := by rw [← Int.natCast_mul, Int.toNat_natCast]
      rw [e]
      obtain ⟨_, ps, h1, h2, h3⟩ := S
      exact ⟨ps, h1, h2, h3⟩
end
end K40
/-! part U40 -/
set_option Elab.async false
set_option linter.all false
set_option maxRecDepth 100000
set_option maxHeartbeats 4000000
namespace GX
open PySem PySem.Spec PyProof.Rows L2
/-- the class at c, seen from the exception class at D -/
structure ClsX (K : PySem.W.Frag) (D c : Addr) (b : Bool) : Prop where
  sub : PySem.W.subIn K (.ref D) (.ref c) = some b
  hd : PySem.W.hasDictIn K c = true
  ty : PySem.W.typeIn K (.ref c) = some (.type "type")
  exc : PySem.W.subIn K (.ref c) (.type "BaseException") = some true
theorem ClsX.cls {K : PySem.W.Frag} {D c : Addr} {b : Bool} (x : ClsX K D c b) : PySem.W.kitCls K (.ref D) (.ref c) = some b := by
  obtain ⟨cd, hc, _⟩ := PySem.W.any_some x.hd
  show (if ((PySem.W.clsIn K c).isSome && PySem.W.typeIn K (.ref c) == some (.type "type")) = true then PySem.W.subIn K (.ref D) (.ref c) else none) = some b
  rw [hc, x.ty, if_pos (by simp), x.sub]
theorem ClsX.kit {K : PySem.W.Frag} {D c : Addr} {b : Bool} (x : ClsX K D c b) (self : PySem.W.subIn K (.ref D) (.ref D) = some true) : PySem.W.kitOne K (.ref D) (.ref c) = some b := by
  by_cases e : D = c
  · subst e
    have e2 : b = true := Option.some.inj (x.sub.symm.trans self)
    rw [e2]
    exact if_pos (beq_self_eq_true _)
  · exact (if_neg (by simpa using e)).trans x.cls
theorem ClsX.exm {K : PySem.W.Frag} {D c : Addr} {b : Bool} (x : ClsX K D c b) : PySem.W.exmOne K (.ref D) (.ref c) = some b := (if_pos (by rw [x.exc]; rfl)).trans x.cls
theorem exmAny2 {K : PySem.W.Frag} {D c1 c2 : Addr} {b1 b2 : Bool} (x : ClsX K D c1 b1) (y : ClsX K D c2 b2) : exmL K (.ref D) [.ref c1, .ref c2] = some (b1 || b2) := by
  show PySem.W.exmAny K (.ref D) [.ref c1, .ref c2] = _
  unfold PySem.W.exmAny
  rw [x.exm]
  unfold PySem.W.exmAny
  rw [y.exm]
  unfold PySem.W.exmAny
  simp
/-- none of these classes -/
inductive NoneOf (K : PySem.W.Frag) (D : Addr) : List Value → Prop
  | nil : NoneOf K D []
  | cons {c : Addr} {r : List Value} (x : ClsX K D c false) (y : NoneOf K D r) : NoneOf K D (.ref c :: r)
theorem NoneOf.kit {K : PySem.W.Frag} {D : Addr} (self : PySem.W.subIn K (.ref D) (.ref D) = some true) : ∀ {l : List Value}, NoneOf K D l → PySem.W.kitAny K (.ref D) l = some false
  | _, .nil => rfl
  | _, .cons x y => kitAny_cons (b := false) (x.kit self) (fun _ => NoneOf.kit self y) (fun z => by cases z)
end GX
namespace K40
open PySem L2 GX
/-- what is asked of the exception classes -/
structure TxtF (K : PySem.W.Frag) (mg : Str → Option Value) (CB : Addr) (ca : Nat → Addr) (cM : Addr) : Prop where
  xk : ExK K CB
  no_at : PySem.W.findIn K (.ref CB) "at" = some none
  self : PySem.W.subIn K (.ref CB) (.ref CB) = some true
  m_ValueError : mg "ValueError" = none
  kV : PySem.W.kitOne K (.ref CB) (.type "ValueError") = some true
  g_BadTorus : mg "BadTorus" = some (.ref CB)
  g_Malformed : mg "Malformed" = some (.ref cM)
  c_Malformed : ClsX K CB cM true
  g_BadNumber : mg "BadNumber" = some (.ref (ca 0))
  c_BadNumber : ClsX K CB (ca 0) false
  g_BadSum : mg "BadSum" = some (.ref (ca 1))
  c_BadSum : ClsX K CB (ca 1) false
  g_BadTable : mg "BadTable" = some (.ref (ca 2))
  c_BadTable : ClsX K CB (ca 2) false
  g_BadDeed : mg "BadDeed" = some (.ref (ca 3))
  c_BadDeed : ClsX K CB (ca 3) false
  g_BadBook : mg "BadBook" = some (.ref (ca 4))
  c_BadBook : ClsX K CB (ca 4) false
  g_BadPattern : mg "BadPattern" = some (.ref (ca 5))
  c_BadPattern : ClsX K CB (ca 5) false
  g_BadName : mg "BadName" = some (.ref (ca 6))
  c_BadName : ClsX K CB (ca 6) false
  g_BadGate : mg "BadGate" = some (.ref (ca 7))
  c_BadGate : ClsX K CB (ca 7) false
  g_BadRule : mg "BadRule" = some (.ref (ca 8))
  c_BadRule : ClsX K CB (ca 8) false
  g_BadCharge : mg "BadCharge" = some (.ref (ca 9))
  c_BadCharge : ClsX K CB (ca 9) false
  g_BadScript : mg "BadScript" = some (.ref (ca 10))
  c_BadScript : ClsX K CB (ca 10) false
  g_NoSuch : mg "NoSuch" = some (.ref (ca 11))
  c_NoSuch : ClsX K CB (ca 11) false
  g_Ended : mg "Ended" = some (.ref (ca 12))
  c_Ended : ClsX K CB (ca 12) false
  g_TooMany : mg "TooMany" = some (.ref (ca 13))
  c_TooMany : ClsX K CB (ca 13) false
  g_Unlike : mg "Unlike" = some (.ref (ca 14))
  c_Unlike : ClsX K CB (ca 14) false
  g_Refused : mg "Refused" = some (.ref (ca 15))
  c_Refused : ClsX K CB (ca 15) false
def spFault (CB : Addr) : SpE := fun a cls d vs H Q _ => ∃ (dd : Addr) (r : Int), cls = .ref CB ∧ d = some dd ∧ vs = [.ref a] ∧ H dd = some (.xd (atF r)) ∧ ∀ q H', Same H H' → H q = none → H' q = some (.tup [.str ("at" : Str), .int r]) → Q (.ref q) H'
section
variable {P : Program} {w : World} {K : PySem.W.Frag} {mg : Str → Option Value} {base : Heap} {C CB cM fB DBOUNDS : Addr} {ca : Nat → Addr} {f : Addr} {fd : FuncData}
theorem ok_fault (F : Fun K "_law_fault" "_law_fault" s_law_fault f fd) (T : Txt K mg C CB) (TF : TxtF K mg CB ca cM) : FnE P w K mg base 1 f fd ["e"] (spFault CB) := by
  obtain ⟨oc, od, kV, doc, pm, an, cdv, ct, osl, rfl, lk, hcd⟩ := F.ex
  refine fn_ofE lk hcd sc_law_fault (fun a cls d vs H Q E h => ?_) fun A outer s H vs Q E p cls d hot hz hr h => ?_
  · obtain ⟨dd, r, _, _, rfl, _⟩ := h
    rfl
  · obtain ⟨dd, r, rfl, rfl, rfl, hx, k⟩ := h
    have nd := sc_law_fault.nd
    have hf : ∃ vs, p.2.data = .fields vs := ⟨_, hot.2.choose_spec.1⟩
    have hp : p ∈ (L2H.cxH (L2N.CX P w) P w K mg base ["e", "wrong"] "_law_fault" (defScope s_law_fault) f cdv A outer s H E p).pn := List.mem_singleton.mpr rfl
    refine ⟨_, (pss_cons (ps_set (i := 1) nd rfl (Or.inl rfl) (pe_callB (call_isP TF.xk hz hf hp) rfl T.m_isinstance (by decide +kernel) (pa_cons (pv 0) (pa_cons (pe_tup (pa_cons (pe_glob (v := V.ref _) rfl TF.g_BadNumber rfl) (pa_cons (pe_glob (v := V.ref _) rfl TF.g_BadSum rfl) (pa_cons (pe_glob (v := V.ref _) rfl TF.g_BadTable rfl) (pa_cons (pe_glob (v := V.ref _) rfl TF.g_BadDeed rfl) (pa_cons (pe_glob (v := V.ref _) rfl TF.g_BadBook rfl) (pa_cons (pe_glob (v := V.ref _) rfl TF.g_BadPattern rfl) (pa_cons (pe_glob (v := V.ref _) rfl TF.g_BadName rfl) (pa_cons (pe_glob (v := V.ref _) rfl TF.g_BadGate rfl) (pa_cons (pe_glob (v := V.ref _) rfl TF.g_BadRule rfl) pa_nil)))))))))) pa_nil))))
    (pss_cons (ps_set (i := 1) nd rfl (Or.inl rfl) (pe_or (pv 1) (pe_one (pe_callB (call_isP TF.xk hz hf hp) rfl T.m_isinstance (by decide +kernel) (pa_cons (pv 0) (pa_cons (pe_tup (pa_cons (pe_glob (v := V.ref _) rfl TF.g_BadCharge rfl) (pa_cons (pe_glob (v := V.ref _) rfl TF.g_BadScript rfl) (pa_cons (pe_glob (v := V.ref _) rfl TF.g_NoSuch rfl) (pa_cons (pe_glob (v := V.ref _) rfl TF.g_Ended rfl) (pa_cons (pe_glob (v := V.ref _) rfl TF.g_TooMany rfl) (pa_cons (pe_glob (v := V.ref _) rfl TF.g_Unlike rfl) (pa_cons (pe_glob (v := V.ref _) rfl TF.g_Refused rfl) pa_nil)))))))) pa_nil))))))
    (pss_cons (ps_if (PW.pt (pw_or (pt_val (pv 1)) (pw_or (pt_not (pt_val (pe_callB (call_isP TF.xk hz hf hp) rfl T.m_isinstance (by decide +kernel) (pa_cons (pv 0) (pa_cons (pe_glob (v := V.ref _) rfl TF.g_BadTorus rfl) pa_nil))))) (pw_or (pt_not (pt_val (pe_callB (call_isP TF.xk hz hf hp) rfl T.m_isinstance (by decide +kernel) (pa_cons (pv 0) (pa_cons (pe_glob (v := V.ref _) rfl TF.g_Malformed rfl) pa_nil))))) (pw_or1 (pt_not (pt_val (pe_callB (call_isP TF.xk hz hf hp) rfl T.m_isinstance (by decide +kernel) (pa_cons (pv 0) (pa_cons (pe_bltn (v := .ty "ValueError") (u := .type "ValueError") rfl TF.m_ValueError (by decide +kernel) rfl) pa_nil))))))))))
      (pss_one (ps_ret (pe_tup (pa_cons pe_str (pa_cons pe_int pa_nil)))))
      pss_nil)
    (pss_one (ps_ret (pe_tup (pa_cons pe_str (pa_cons (pe_xp TF.xk TF.no_at hz hf hp (pv 0)) pa_nil)))))))), ?_⟩
    refine ⟨_, rfl, by show 9 ≤ sizeLine; decide, fun t nt => ?_⟩
    have s1 : ∀ o, Same H (upd H t o) := fun o => Same.put nt
    refine ⟨.inr ⟨dd, _, rfl, s1 _ _ _ hx⟩, .inr ⟨t, _, _, false, rfl, upd_same, .cons (.own _) (.cons (.own _) (.cons (.own _) (.cons (.own _) (.cons (.own _) (.cons (.own _) (.cons (.own _) (.cons (.own _) (.cons (.own _) .nil)))))))), ?_, ?_⟩⟩
    · exact NoneOf.kit TF.self (.cons TF.c_BadNumber (.cons TF.c_BadSum (.cons TF.c_BadTable (.cons TF.c_BadDeed (.cons TF.c_BadBook (.cons TF.c_BadPattern (.cons TF.c_BadName (.cons TF.c_BadGate (.cons TF.c_BadRule .nil)))))))))
    refine ⟨_, rfl, _, rfl, ?_⟩
    refine iteF ?_
    refine ⟨_, rfl, by show 7 ≤ sizeLine; decide, fun t2 nt2 => ?_⟩
    have s2 : ∀ o, Same H (upd _ t2 o) := fun o => (s1 _).trans (Same.put nt2)
    refine ⟨.inr ⟨dd, _, rfl, s2 _ _ _ hx⟩, .inr ⟨t2, _, _, false, rfl, upd_same, .cons (.own _) (.cons (.own _) (.cons (.own _) (.cons (.own _) (.cons (.own _) (.cons (.own _) (.cons (.own _) .nil)))))), ?_, ?_⟩⟩
    · exact NoneOf.kit TF.self (.cons TF.c_BadCharge (.cons TF.c_BadScript (.cons TF.c_NoSuch (.cons TF.c_Ended (.cons TF.c_TooMany (.cons TF.c_Unlike (.cons TF.c_Refused .nil)))))))
    have x2 := fun o => s2 o _ _ hx
    refine ⟨_, rfl, _, rfl, ?_⟩
    refine iteF ?_
    refine ⟨_, rfl, .inr ⟨dd, _, rfl, x2 _⟩, .inl ⟨_, _, true, rfl, .own _, if_pos (beq_self_eq_true _), _, rfl, ?_⟩⟩
    refine iteF ?_
    refine ⟨_, rfl, .inr ⟨dd, _, rfl, x2 _⟩, .inl ⟨_, _, true, rfl, .own _, TF.c_Malformed.kit TF.self, _, rfl, ?_⟩⟩
    refine iteF ?_
    refine ⟨_, rfl, .inr ⟨dd, _, rfl, x2 _⟩, .inl ⟨_, _, true, rfl, .ty _, TF.kV, _, rfl, ?_⟩⟩
    refine iteF ?_
    refine ⟨_, rfl, rfl, dd, _, _, rfl, x2 _, rfl, by show 2 ≤ sizeLine; decide, fun q nq => ?_⟩
    exact k q _ ((s2 _).trans (Same.put nq)) ((s2 _).free nq) upd_same
end
end K40
/-! part V40 -/
set_option Elab.async false
set_option linter.all false
set_option maxRecDepth 100000
set_option maxHeartbeats 4000000
namespace K40
open PySem L2 GX
/-- the told result: a torus, or the place of the fault -/
inductive ToldAt (C : Addr) (H : Hp) (q : Addr) : (Int ⊕ (Int × Int × Int)) → Prop
  | bad {r : Int} (h : H q = some (.tup [.str ("at" : Str), .int r])) : ToldAt C H q (.inl r)
  | ring {s : Addr} {a b c : Int} (h : H q = some (.tup [.str ("ring" : Str), .ref s])) (hs : TorAt C H s a b c) : ToldAt C H q (.inr (a, b, c))
def dueN (a b c : Int) : Int ⊕ (Int × Int × Int) := if rangeI a b c < 3 then .inl (rangeI a b c) else .inr (a, b, c)
def spCalled (C : Addr) : Sp := fun vs H Q _ => ∃ (p : Addr) (a b c : Int) (r : List V), vs = [.ref p] ∧ H p = some (.lst (.int a :: .int b :: .int c :: r)) ∧ ∀ q H', Same H H' → H q = none → ToldAt C H' q (dueN a b c) → Q (.ref q) H'
def spLRead (C : Addr) : Sp := fun vs H Q _ => ∃ (z : Str), vs = [.str z] ∧ z.length ≤ 1000 ∧ (∀ u ∈ Txt.split z sep, WordOk u) ∧ ∀ q H', Same H H' → H q = none → ToldAt C H' q (due (Txt.split z sep)) → Q (.ref q) H'
section
variable {P : Program} {w : World} {K : PySem.W.Frag} {mg : Str → Option Value} {base : Heap} {C CB cM fB DBOUNDS : Addr} {ca : Nat → Addr} {f fF : Addr} {fd fdF : FuncData}
theorem ok_called (F : Fun K "_law_called" "_law_called" s_law_called f fd) (T : Txt K mg C CB) (TF : TxtF K mg CB ca cM) (n_Torus_3 : NewN P w K mg base 1 "Torus" C 3 [] (sk (spInit C CB)))
    (FF : FnE P w K mg base 1 fF fdF ["e"] (spFault CB)) (mF : mg "_law_fault" = some (.ref fF)) (kF : PySem.W.keepIn K (.ref fF) = true) (bF : Binds K fdF ["e"] []) : FnOk P w K mg base CX0 3 f fd ["numbers"] (spCalled C) := by
  refine F.ok sc_law_called (fun vs H Q E h => ?_) (fun cdv A outer s H vs Q E hr h => ?_)
  · obtain ⟨p, a, b, c, r, rfl, _⟩ := h
    rfl
  · obtain ⟨p, a, b, c, r, rfl, hp, k⟩ := h
    have nd := sc_law_called.nd
    have g0 : atI (V.int a :: V.int b :: V.int c :: r) 0 = some (.int a) := atI_nat (j := 0) rfl
    have g1 : atI (V.int a :: V.int b :: V.int c :: r) 1 = some (.int b) := atI_nat (j := 1) rfl
    have g2 : atI (V.int a :: V.int b :: V.int c :: r) 2 = some (.int c) := atI_nat (j := 2) rfl
    refine ⟨_, pss_one (ps_tryA (Wout := W0) rfl rfl nd takes0N (fun W pn xe tk po => pss_one (ps_ret (pe_tup (pa_cons pe_str (pa_cons (pn_new n_Torus_3 hr (by decide) tk rfl (pa_cons (pe_ix (r := rIxL K) ix_list (pv 0) pe_int (fun _ _ => rfl)) (pa_cons (pe_ix (r := rIxL K) ix_list (pv 0) pe_int (fun _ _ => rfl)) (pa_cons (pe_ix (r := rIxL K) ix_list (pv 0) pe_int (fun _ _ => rfl)) pa_nil)))) pa_nil)))))
      (.cons (i := 1) (.two ⟨rfl, by decide, .inl TF.g_Malformed⟩ ⟨rfl, by decide, .inl TF.g_Refused⟩) rfl rfl (fun x oe cls d pn hz hf => pss_one (ps_ret (pe_callE FF ⟨(hr.mono (j := 1) (by decide)).dp, (hr.mono (j := 1) (by decide)).un⟩ hz hf rfl mF kF bF (pa_cons (pv 1) pa_nil)))) .nil)), ?_⟩
    refine ⟨_, rfl, p, _, _, _, rfl, rfl, SqL.of hp, g0, _, rfl, p, _, _, _, rfl, rfl, SqL.of hp, g1, _, rfl, p, _, _, _, rfl, rfl, SqL.of hp, g2, ?_⟩
    intro x dx nx ndx nex
    have sN : Same H (upd (upd H dx (.own x)) x (.ins C dx [])) := fun b o e => by
      rw [upd_ne (ne_of_none e nx), upd_ne (ne_of_none e ndx)]
      exact e
    refine ⟨rfl, x, dx, a, b, c, rfl, upd_same, fun h3 => ⟨rfl, by show 2 ≤ sizeLine; decide, fun q nq => ?_⟩, fun h3 d hd => ?_⟩
    · have sX : Same H (upd (upd (upd H dx (.own x)) x (.ins C dx [])) x (.ins C dx (tf a b c))) := fun b o e => by
        rw [upd_ne (ne_of_none e nx)]
        exact sN _ _ e
      refine k q _ (sX.trans (Same.put nq)) (sX.free nq) ?_
      have e : dueN a b c = .inr (a, b, c) := if_neg (by omega)
      rw [e]
      exact .ring upd_same ⟨dx, (Same.put nq) _ _ upd_same⟩
    · refine ⟨true, exmAny2 TF.c_Malformed TF.c_Refused, fun _ u hu => ?_, fun z => by cases z⟩
      have sD := sN.trans (Same.put (o := .xd (atF (rangeI a b c))) hd)
      refine ⟨_, rfl, d, _, rfl, rfl, rfl, upd_same, fun q H' s1 nq hq => ?_⟩
      refine k q H' (sD.trans s1) (sD.free nq) ?_
      have e : dueN a b c = .inl (rangeI a b c) := if_pos h3
      rw [e]
      exact .bad hq
theorem ok_lread (F : Fun K "_law_read" "_law_read" s_law_read f fd) (T : Txt K mg C CB) (TF : TxtF K mg CB ca cM) (s_read : StaN P w K mg base 3 C "read" 1 (sk (spRead C CB)))
    (FF : FnE P w K mg base 1 fF fdF ["e"] (spFault CB)) (mF : mg "_law_fault" = some (.ref fF)) (kF : PySem.W.keepIn K (.ref fF) = true) (bF : Binds K fdF ["e"] []) : FnOk P w K mg base CX0 4 f fd ["text"] (spLRead C) := by
  refine F.ok sc_law_read (fun vs H Q E h => ?_) (fun cdv A outer s H vs Q E hr h => ?_)
  · obtain ⟨z, rfl, _⟩ := h
    rfl
  · obtain ⟨z, rfl, hz, hw, k⟩ := h
    have nd := sc_law_read.nd
    refine ⟨_, pss_one (ps_tryA (Wout := W0) rfl rfl nd takes0N (fun W pn xe tk po => pss_one (ps_ret (pe_tup (pa_cons pe_str (pa_cons (pn_st s_read hr (by decide) tk (pe_glob (v := V.ref _) rfl T.g_Torus rfl) (pa_cons (pv 0) pa_nil)) pa_nil)))))
      (.cons (i := 1) (.two ⟨rfl, by decide, .inl TF.g_Malformed⟩ ⟨rfl, by decide, .inl TF.g_Refused⟩) rfl rfl (fun x oe cls d pn hz hf => pss_one (ps_ret (pe_callE FF ⟨(hr.mono (j := 1) (by decide)).dp, (hr.mono (j := 1) (by decide)).un⟩ hz hf rfl mF kF bF (pa_cons (pv 1) pa_nil)))) .nil)), ?_⟩
    refine ⟨rfl, _, rfl, rfl, z, rfl, hz, hw, fun a b c hd p H1 s1 np ht => ⟨by show 2 ≤ sizeLine; decide, fun q nq => ?_⟩, fun r hd d H1 s1 nd1 hd1 => ?_⟩
    · refine k q _ (s1.trans (Same.put nq)) (s1.free nq) ?_
      rw [hd]
      exact .ring upd_same (ht.same (Same.put nq))
    · refine ⟨true, exmAny2 TF.c_Malformed TF.c_Refused, fun _ u hu => ?_, fun z => by cases z⟩
      refine ⟨_, rfl, d, _, rfl, rfl, rfl, hd1, fun q H' s2 nq hq => ?_⟩
      refine k q H' (s1.trans s2) (s1.free nq) ?_
      rw [hd]
      exact .bad hq
end
end K40
/-! part RA40 -/
set_option Elab.async false
set_option linter.all false
set_option maxRecDepth 100000
set_option maxHeartbeats 4000000
namespace K40
open PySem L2 GX
def flat (v : V) : Prop := (∃ b, v = .bl b) ∨ (∃ i, v = .int i) ∨ ∃ z, v = .str z
theorem Lk.up {K : PySem.W.Frag} : ∀ {k : Nat} {H : Hp} {x y : V}, Lk K k H x y → Lk K (k + 1) H x y
  | 0, _, _, _, h => False.elim h
  | k + 1, H, x, y, h => by
    rcases h with h | ⟨a, b, xs, ys, e1, e2, h3, h4, h5, h6⟩
    · exact .inl h
    · exact .inr ⟨a, b, xs, ys, e1, e2, h3, h4, h5, fun i x' y' hx hy => Lk.up (h6 i x' y' hx hy)⟩
theorem lk_flat {K : PySem.W.Frag} {k : Nat} {H : Hp} {v : V} (h : flat v) : Lk K (k + 1) H v v := .inl ⟨rfl, h⟩
theorem lk_tup {K : PySem.W.Frag} {k : Nat} {H : Hp} {a b : Addr} {l : List V} (qa : SqT K H a l) (qb : SqT K H b l) (hl : l.length ≤ 1000000) (hf : ∀ v ∈ l, flat v) : Lk K (k + 2) H (.ref a) (.ref b) :=
  .inr ⟨a, b, l, l, rfl, rfl, .inr ⟨qa, qb⟩, rfl, hl, fun i x y hx hy => by
    rw [hx] at hy
    cases hy
    exact lk_flat (hf _ (List.mem_of_getElem? hx))⟩
theorem flat_ints {ns : List Int} : ∀ v ∈ ns.map V.int, flat v := fun v hv => by
  obtain ⟨n, _, rfl⟩ := List.mem_map.mp hv
  exact .inr (.inl ⟨n, rfl⟩)
theorem lk_sites {K : PySem.W.Frag} {H : Hp} {p q : Addr} {h : Int} {n : Nat} (hn : n ≤ 1000) (A : SitesAt H p h n) (B : SitesAt H q h n) : Lk K 3 H (.ref p) (.ref q) := by
  obtain ⟨ps, a1, a2, a3⟩ := A.ex
  obtain ⟨qs, b1, b2, b3⟩ := B.ex
  refine .inr ⟨p, q, _, _, rfl, rfl, .inl ⟨SqL.of a1, SqL.of b1⟩, by rw [List.length_map, List.length_map, a2, b2], by rw [List.length_map, a2]; omega, fun i x y hx hy => ?_⟩
  rw [List.getElem?_map] at hx hy
  cases e1 : ps[i]? with
  | none => rw [e1] at hx; cases hx
  | some u =>
    cases e2 : qs[i]? with
    | none => rw [e2] at hy; cases hy
    | some v =>
      rw [e1] at hx
      rw [e2] at hy
      cases hx
      cases hy
      exact lk_tup (SqT.of (a3 i u e1)) (SqT.of (b3 i v e2)) (by show 2 ≤ 1000000; decide) (flat_ints (ns := [(i : Int) / h, (i : Int) % h]))
theorem SitesAt.same {H H' : Hp} {p : Addr} {h : Int} {n : Nat} (A : SitesAt H p h n) (s : Same H H') : SitesAt H' p h n := by
  obtain ⟨ps, a1, a2, a3⟩ := A.ex
  exact ⟨ps, s _ _ a1, a2, fun k a e => s _ _ (a3 k a e)⟩
theorem BagAt.sqT {K : PySem.W.Frag} {H H' : Hp} {b s : Addr} {n : Nat} {xs : List V} (B : BagAt H b n) (k : Kp b H H') (h : SqT K H s xs) : SqT K H' s xs := by
  obtain ⟨L, ns, i, cell, mixed, cnt, h1, _⟩ := B.ex
  rcases h with (h | ⟨o, h⟩) | h
  · exact .inl (.inl (k _ _ h (ne_of h h1 (by intro z; cases z))))
  · exact .inl (.inr ⟨o, k _ _ h (ne_of h h1 (by intro z; cases z))⟩)
  · exact .inr h
/-- what stands while a torus is looked at -/
structure RS (K : PySem.W.Frag) (C : Addr) (H0 H : Hp) (b : Addr) (n : Nat) (p s : Addr) (x y t : Int) : Prop where
  kp : Kp b H0 H
  bag : BagAt H b n
  tor : TorAt C H p x y t
  shp : SqT K H s (shapeV x y t)
section
variable {K : PySem.W.Frag} {C : Addr} {H0 H H' : Hp} {b : Addr} {n : Nat} {p s : Addr} {x y t : Int}
theorem RS.same (R : RS K C H0 H b n p s x y t) (e : Same H H') : RS K C H0 H' b n p s x y t :=
  ⟨R.kp.trans (Same.kp e), R.bag.same e, R.tor.same e, GX.Same.sqT e R.shp⟩
theorem RS.draw {m : Nat} (R : RS K C H0 H b n p s x y t) (k : Kp b H H') (B : BagAt H' b m) : RS K C H0 H' b m p s x y t :=
  ⟨R.kp.trans k, B, R.tor.kp R.bag k, R.bag.sqT k R.shp⟩
theorem RS.mono {m : Nat} (R : RS K C H0 H b n p s x y t) (h : n ≤ m) : RS K C H0 H b m p s x y t := ⟨R.kp, R.bag.mono h, R.tor, R.shp⟩
end
def spRing (K : PySem.W.Frag) (C : Addr) : Sp := fun vs H Q _ => ∃ (b p s : Addr) (n : Nat) (x y t : Int), vs = [.ref b, .ref p, .ref s] ∧ BagAt H b n ∧ n < 1000000 ∧ TorAt C H p x y t ∧ SqT K H s (shapeV x y t) ∧ Good x y t ∧
  ∀ H', Kp b H H' → BagAt H' b (n + 40) → Q (.bl true) H'
theorem sh0 (x y t : Int) : atI (shapeV x y t) 0 = some (.int x) := atI_nat (j := 0) rfl
theorem sh1 (x y t : Int) : atI (shapeV x y t) 1 = some (.int y) := atI_nat (j := 1) rfl
theorem sh2 (x y t : Int) : atI (shapeV x y t) 2 = some (.int t) := atI_nat (j := 2) rfl
theorem sp1 : ((" " : Str)).length = 1 := by decide +kernel
theorem big {n : Nat} (h : n ≤ 100) : n ≤ sizeLine := Nat.le_trans h (by decide)
end K40
/-! part RB40 -/
set_option Elab.async false
set_option linter.all false
set_option maxRecDepth 100000
set_option maxHeartbeats 4000000
namespace K40
open PySem L2 GX
section
variable {P : Program} {w : World} {K : PySem.W.Frag} {mg : Str → Option Value} {base : Heap} {C CB cM fB DBOUNDS : Addr} {ca : Nat → Addr} {f : Addr} {fd : FuncData}
theorem ok_ring (F : Fun K "_law_ring_so" "_law_ring_so" s_law_ring_so f fd) (T : Txt K mg C CB) (g_law_draw : CalN P w K mg base 1 "_law_draw" 2 [] (sk spDraw)) (g_law_of : CalN P w K mg base 2 "_law_of" 2 [] (sk (spOf K)))
    (g_law_like : CalN P w K mg base 3 "_law_like" 2 [] (sk (spLike K 3))) (g_law_site : CalN P w K mg base 1 "_law_site" 3 [] (sk (spSite K))) (g_law_sites : CalN P w K mg base 1 "_law_sites" 1 [] (sk (spSites K)))
    (p_text : PrpN P w K mg base 1 C "text" (sk (spText C))) (p_sites : PrpN P w K mg base 1 C "sites" (sk (spPSites C))) (m_written : MetN P w K mg base 1 C "written" 3 (sk (spWritten C))) (m_closes : MetN P w K mg base 2 C "closes" 3 (sk (spCloses C))) :
    FnOk P w K mg base CX0 4 f fd ["bag", "ring", "shape"] (spRing K C) := by
  refine F.ok sc_law_ring_so (fun vs H Q E h => ?_) (fun cdv A outer st H vs Q E hr h => ?_)
  · obtain ⟨b, p, s, n, x, y, t, rfl, _⟩ := h
    rfl
  · obtain ⟨b, p, s, n, x, y, t, rfl, hB, hn, hT, hS, G, k⟩ := h
    have nd := sc_law_ring_so.nd
    have R0 : RS K C H H b n p s x y t := ⟨Kp.refl b H, hB, hT, hS⟩
    obtain ⟨dx, hp⟩ := hT.ex
    have hxy : 0 ≤ x * y := Int.mul_nonneg (by have := G.w0; omega) (by have := G.h0; omega)
    have lx := strT (by have := G.w0; omega : 0 ≤ x) G.w1
    have ly := strT (by have := G.h0; omega : 0 ≤ y) G.h1
    have lt := strT G.t0 (by have := G.t1; have := G.w1; omega : t ≤ 1000)
    refine ⟨_, (pss_cons (ps_if (PW.pt (pw_or (pt_not (pt_val (pe_callB call_isi rfl T.m_isinstance (by decide +kernel) (pa_cons (pv 1) (pa_cons (pe_glob (v := V.ref _) rfl T.g_Torus rfl) pa_nil))))) (pw_or1 (pt_not (pt_val (pn_f g_law_like hr (by decide) takes0N rfl (pa_cons (pe_tup (pa_cons (pe_fld (pv 1) rfl) (pa_cons (pe_fld (pv 1) rfl) (pa_cons (pe_fld (pv 1) rfl) pa_nil)))) (pa_cons (pv 2) pa_nil))))))))
      (pss_one (ps_ret pe_bl))
      pss_nil)
    (pss_cons (ps_if (pt_not (pt_val (pn_f g_law_like hr (by decide) takes0N rfl (pa_cons (pn_p T.cl p_text hr (by decide) (pv 1)) (pa_cons (pe_op op_add_str (pe_op op_add_str (pe_op op_add_str (pe_op op_add_str (pe_callTy call_str_int rfl T.m_str (by decide +kernel) (pa_cons (pe_ix ix_tup (pv 2) pe_int (fun _ _ => rfl)) pa_nil)) pe_str) (pe_callTy call_str_int rfl T.m_str (by decide +kernel) (pa_cons (pe_ix ix_tup (pv 2) pe_int (fun _ _ => rfl)) pa_nil))) pe_str) (pe_callTy call_str_int rfl T.m_str (by decide +kernel) (pa_cons (pe_ix ix_tup (pv 2) pe_int (fun _ _ => rfl)) pa_nil))) pa_nil)))))
      (pss_one (ps_ret pe_bl))
      pss_nil)
    (pss_cons (ps_if (pt_cmpR op_le (pe_op op_mul (pe_ix ix_tup (pv 2) pe_int (fun _ _ => rfl)) (pe_ix ix_tup (pv 2) pe_int (fun _ _ => rfl))) pe_int (nomark _))
      (pss_cons (ps_set (i := 3) nd rfl (Or.inl rfl) (pn_p T.cl p_sites hr (by decide) (pv 1)))
      (pss_cons (ps_if (pt_not (pt_val (pn_f g_law_like hr (by decide) takes0N rfl (pa_cons (pv 3) (pa_cons (pn_f g_law_sites hr (by decide) takes0N rfl (pa_cons (pv 2) pa_nil)) pa_nil)))))
        (pss_one (ps_ret pe_bl))
        pss_nil)
      (pss_cons (ps_expr (pe_bm0 PySem.F.plainAttrs_list PySem.F.slot_list_pop PySem.F.type_list_pop mt_pop (pv 3)))
      (pss_one (ps_if (pt_not (pt_val (pn_f g_law_like hr (by decide) takes0N rfl (pa_cons (pn_p T.cl p_sites hr (by decide) (pv 1)) (pa_cons (pn_f g_law_sites hr (by decide) takes0N rfl (pa_cons (pv 2) pa_nil)) pa_nil)))))
        (pss_one (ps_ret pe_bl))
        pss_nil)))))
      pss_nil)
    (pss_cons (ps_for PassesOwn.never rfl (pi_range1 rfl T.m_range (pa_cons pe_int pa_nil)) (pg_name (i := 4) nd rfl (Or.inl rfl))
      (pss_cons (ps_par (i := 5) (j := 6) rfl nd rfl rfl (by decide) rfl rfl (pa_cons (pe_op op_sub (pn_f g_law_draw hr (by decide) takes0N rfl (pa_cons (pv 0) (pa_cons pe_int pa_nil))) pe_int) (pa_cons (pe_op op_sub (pn_f g_law_draw hr (by decide) takes0N rfl (pa_cons (pv 0) (pa_cons pe_int pa_nil))) pe_int) pa_nil)) rfl)
      (pss_cons (ps_if (pt_cmpR op_eq (pv 4) pe_int (nomark _))
        (pss_one (ps_par (i := 5) (j := 6) rfl nd rfl rfl (by decide) rfl rfl (pa_cons (pe_op op_sub (pn_f g_law_draw hr (by decide) takes0N rfl (pa_cons (pv 0) (pa_cons pe_int pa_nil))) pe_int) (pa_cons (pe_op op_sub (pn_f g_law_draw hr (by decide) takes0N rfl (pa_cons (pv 0) (pa_cons pe_int pa_nil))) pe_int) pa_nil)) rfl))
        pss_nil)
      (pss_cons (ps_if (pt_cmpR op_eq (pv 4) pe_int (nomark _))
        (pss_cons (ps_par (i := 7) (j := 8) rfl nd rfl rfl (by decide) rfl rfl (pa_cons (pe_op op_sub (pn_f g_law_draw hr (by decide) takes0N rfl (pa_cons (pv 0) (pa_cons pe_int pa_nil))) pe_int) (pa_cons (pe_op op_sub (pn_f g_law_draw hr (by decide) takes0N rfl (pa_cons (pv 0) (pa_cons pe_int pa_nil))) pe_int) pa_nil)) rfl)
        (pss_cons (ps_par (i := 5) (j := 6) rfl nd rfl rfl (by decide) rfl rfl (pa_cons (pe_op op_add (pe_op op_mul (pv 7) (pe_ix ix_tup (pv 2) pe_int (fun _ _ => rfl))) (pe_op op_mul (pv 8) (pe_ix ix_tup (pv 2) pe_int (fun _ _ => rfl)))) (pa_cons (pe_op op_mul (pv 8) (pe_ix ix_tup (pv 2) pe_int (fun _ _ => rfl))) pa_nil)) rfl)
        (pss_one (ps_asg (pe_ifExp (PW.pt (pw_and (pt_cmpR op_lt (pe_callB call_abs rfl T.m_abs (by decide +kernel) (pa_cons (pv 5) pa_nil)) pe_int (nomark _)) (pw_and1 (pt_cmpR op_le (pe_callB call_abs rfl T.m_abs (by decide +kernel) (pa_cons (pv 6) pa_nil)) pe_int (nomark _))))) (pe_tup (pa_cons (pe_op op_add (pv 5) (pn_f g_law_of hr (by decide) takes0N rfl (pa_cons (pv 0) (pa_cons (pe_lst (pa_cons pe_int (pa_cons pe_int (pa_cons pe_int pa_nil)))) pa_nil)))) (pa_cons (pv 6) pa_nil))) (pe_tup (pa_cons (pe_op op_sub (pe_ix ix_tup (pv 2) pe_int (fun _ _ => rfl)) pe_int) (pa_cons pe_int pa_nil)))) (pg_tup rfl (pgs_cons (pg_name (i := 5) nd rfl (Or.inl rfl)) (pgs_cons (pg_name (i := 6) nd rfl (Or.inl rfl)) pgs_nil)))))))
        pss_nil)
      (pss_cons (ps_set (i := 9) nd rfl (Or.inl rfl) (pn_f g_law_site hr (by decide) takes0N rfl (pa_cons (pv 2) (pa_cons (pv 5) (pa_cons (pv 6) pa_nil)))))
      (pss_one (ps_if (PW.pt (pw_or (pt_not (pt_val (pn_f g_law_like hr (by decide) takes0N rfl (pa_cons (pn_m T.cl m_written hr (by decide) takes0N (pv 1) (pa_cons (pv 5) (pa_cons (pv 6) pa_nil))) (pa_cons (pv 9) pa_nil))))) (pw_or1 (pt_not (pt_val (pn_f g_law_like hr (by decide) takes0N rfl (pa_cons (pn_m T.cl m_closes hr (by decide) takes0N (pv 1) (pa_cons (pv 5) (pa_cons (pv 6) pa_nil))) (pa_cons (pe_cmpR (op_eqD hr.units) (pv 9) (pe_tup (pa_cons pe_int (pa_cons pe_int pa_nil))) (nomark _)) pa_nil))))))))
        (pss_one (ps_ret pe_bl))
        pss_nil)))))))
    (pss_one (ps_ret pe_bl)))))), ?_⟩
    refine ⟨_, rfl, _, _, _, _, true, rfl, .own C, T.ownTy hp, T.isT, _, rfl, ?_⟩
    refine iteF ?_
    refine ⟨_, rfl, p, C, dx, _, _, rfl, hp, T.cl, T.nW, tf_w x y t, _, rfl, p, C, dx, _, _, rfl, hp, T.cl, T.nH, tf_h x y t, _, rfl, p, C, dx, _, _, rfl, hp, T.cl, T.nT, tf_t x y t, by show 3 ≤ sizeLine; decide, fun q nq => ?_⟩
    have R1 := R0.same (Same.put (o := .tup [V.int x, V.int y, V.int t]) nq)
    refine ⟨_, rfl, rfl, _, _, rfl, Lk.up (lk_tup (SqT.of upd_same) R1.shp (by show 3 ≤ 1000000; decide) (flat_ints (ns := [x, y, t]))), fun H1 s1 => ⟨_, rfl, ?_⟩⟩
    refine iteF ?_
    have R2 := R1.same s1
    obtain ⟨dx, hp⟩ := R2.tor.ex
    refine ⟨_, rfl, p, dx, _, rfl, hp, rfl, p, x, y, t, rfl, R2.tor, G, ?_⟩
    refine ⟨_, rfl, s, _, _, _, rfl, rfl, R2.shp, sh0 x y t, _, rfl, lx.2.2, _, _, rfl, rfl, ?_, ?_⟩
    · exact big (by rw [sp1]; omega)
    refine ⟨_, rfl, s, _, _, _, rfl, rfl, R2.shp, sh1 x y t, _, rfl, ly.2.2, _, _, rfl, rfl, ?_, _, _, rfl, rfl, ?_, ?_⟩
    · exact big (by rw [len_app, sp1]; omega)
    · exact big (by rw [len_app, len_app, sp1]; omega)
    refine ⟨_, rfl, s, _, _, _, rfl, rfl, R2.shp, sh2 x y t, _, rfl, lt.2.2, _, _, rfl, rfl, ?_, ?_⟩
    · exact big (by rw [len_app, len_app, len_app, sp1]; omega)
    refine ⟨rfl, _, _, rfl, lk_flat (.inr (.inr ⟨_, rfl⟩)), fun H2 s2 => ⟨_, rfl, ?_⟩⟩
    refine iteF ?_
    have R3 := R2.same s2
    refine nxt ?_
    with_reducible conv => whnf
    refine seq_cut (fun σ H' => ∃ told, σ = [some (.ref b), some (.ref p), some (.ref s), told, none, none, none, none, none, none] ∧ RS K C H H' b n p s x y t) ?_ fun tail => ?_
    · rintro σ H' ⟨told, rfl, R⟩
      refine ⟨4, rfl, by decide, by decide, for_range (n := 4) (fun i σ H' => ∃ told l v1 v2 v3 v4 v5, σ = [some (.ref b), some (.ref p), some (.ref s), told, l, v1, v2, v3, v4, v5] ∧ RS K C H H' b (n + 10 * i) p s x y t) ⟨told, none, none, none, none, none, none, rfl, R⟩ ?_ ?_⟩
      · rintro i σ H1 hi ⟨told, l, v1, v2, v3, v4, v5, rfl, R⟩
        have hin : n + 10 * i < 1000100 := by omega
        refine ⟨_, rfl, rfl, b, _, 2001, rfl, R.bag, by omega, by decide, by decide, fun r1 H2 r10 r11 k1 B1 _ => ⟨_, _, rfl, rfl, _, rfl, rfl, b, _, 2001, rfl, B1, by omega, by decide, by decide, fun r2 H3 r20 r21 k2 B2 _ => ⟨_, _, rfl, rfl, _, _, rfl, ?_⟩⟩⟩
        have R2 := (R.draw k1 B1).draw k2 B2
        with_reducible conv => whnf
        refine seq_cut (fun σ H' => ∃ iv jv, σ = [some (.ref b), some (.ref p), some (.ref s), told, some (.int (0 + (i : Int))), some (.int iv), some (.int jv), v3, v4, v5] ∧ RS K C H H' b (n + 10 * i + 4) p s x y t) ?_ fun tail1 => ?_
        · rintro σ H4 ⟨iv, jv, rfl, R⟩
          refine seq_cut (fun σ H' => ∃ iv jv v3 v4, σ = [some (.ref b), some (.ref p), some (.ref s), told, some (.int (0 + (i : Int))), some (.int iv), some (.int jv), v3, v4, v5] ∧ RS K C H H' b (n + 10 * i + 10) p s x y t) ?_ fun tail2 => ?_
          · rintro σ H5 ⟨iv, jv, v3, v4, rfl, R⟩
            refine ⟨_, rfl, _, rfl, _, rfl, rfl, s, x, y, t, iv, jv, rfl, R.shp, G, fun q nq => ?_⟩
            have R1 := R.same (Same.put (o := .tup (siteV x y t iv jv)) nq)
            obtain ⟨dx, hp⟩ := R1.tor.ex
            refine ⟨_, rfl, p, dx, _, rfl, hp, tf_no (by decide +kernel) (by decide +kernel) (by decide +kernel), _, rfl, _, rfl, rfl, p, x, y, t, iv, jv, rfl, R1.tor, G, fun u nu => ?_⟩
            have hq := (Same.put (o := .tup (siteV x y t iv jv)) nu) _ _ (upd_same (H := H5) (a := q) (o := .tup (siteV x y t iv jv)))
            have R2 := R1.same (Same.put (o := .tup (siteV x y t iv jv)) nu)
            refine ⟨_, rfl, rfl, _, _, rfl, Lk.up (lk_tup (SqT.of upd_same) (SqT.of hq) (by show 2 ≤ 1000000; decide) (flat_ints (ns := [(iv - jv / y * t) % x, jv - jv / y * y]))), fun H6 s6 => ⟨_, rfl, ?_⟩⟩
            refine iteF ?_
            have R3 := R2.same s6
            obtain ⟨dx, hp⟩ := R3.tor.ex
            refine ⟨_, rfl, p, dx, _, rfl, hp, tf_no (by decide +kernel) (by decide +kernel) (by decide +kernel), _, rfl, _, rfl, rfl, p, x, y, t, iv, jv, rfl, R3.tor, G, fun H7 s7 => ?_⟩
            have hq7 := s7 _ _ (s6 _ _ hq)
            refine ⟨_, rfl, by show 2 ≤ sizeLine; decide, fun v nv => ?_⟩
            refine ⟨_, _, .tup (SqT.of ((Same.put nv) _ _ hq7)) (.cons (.int _) (.cons (.int _) .nil)), .tup (SqT.of upd_same) (.cons (.int _) (.cons (.int _) .nil)), rfl, rfl, ?_⟩
            refine ⟨rfl, _, _, rfl, lk_flat (.inl ⟨_, rfl⟩), fun H8 s8 => ⟨_, rfl, ?_⟩⟩
            refine iteF ?_
            exact ⟨_, _, _, _, _, _, _, rfl, (((R3.same s7).same (Same.put nv)).same s8).mono (by omega)⟩
          · refine ⟨_, rfl, rfl, _, rfl, ?_⟩
            refine ite2 (fun h2 => ?_) (fun h2 => ?_)
            · refine ⟨_, rfl, rfl, b, _, 5, rfl, R.bag, by omega, by decide, by decide, fun r1 H5 r10 r11 k1 B1 _ => ⟨_, _, rfl, rfl, _, rfl, rfl, b, _, 5, rfl, B1, by omega, by decide, by decide, fun r2 H6 r20 r21 k2 B2 _ => ⟨_, _, rfl, rfl, _, _, rfl, ?_⟩⟩⟩
              have R2 := (R.draw k1 B1).draw k2 B2
              have t1 := G.t1
              have w1 := G.w1
              have t0 := G.t0
              have h1 := G.h1
              have h0 := G.h0
              refine ⟨_, rfl, _, rfl, s, _, _, _, rfl, rfl, R2.shp, sh0 x y t, _, _, rfl, rfl, .inl ⟨by omega, by omega⟩, _, rfl, _, rfl, s, _, _, _, rfl, rfl, R2.shp, sh2 x y t, _, _, rfl, rfl, .inl ⟨by omega, by omega⟩, _, _, rfl, rfl, _, rfl, _, rfl, s, _, _, _, rfl, rfl, R2.shp, sh1 x y t, _, _, rfl, rfl, .inl ⟨by omega, by omega⟩, _, _, rfl, ?_⟩
              refine ⟨_, rfl, _, rfl, _, _, rfl, rfl, _, rfl, ?_⟩
              refine ite2 (fun ha => ?_) (fun ha => ?_)
              · refine ⟨_, rfl, _, rfl, _, _, rfl, rfl, _, rfl, ?_⟩
                refine ite2 (fun hb => ?_) (fun hb => ?_)
                · refine ⟨_, rfl, _, rfl, by show 3 ≤ sizeLine; decide, fun l nl => ?_⟩
                  have R3 := R2.same (Same.put (o := .lst [V.int 0, V.int 0, V.int 1]) nl)
                  refine ⟨rfl, b, l, _, _, rfl, R3.bag, by omega, upd_same, (R2.bag.ne nl).symm, by decide, by decide, fun xv H7 hx k3 B3 _ => ?_⟩
                  obtain ⟨m, rfl⟩ : ∃ m : Int, xv = .int m := by
                    simp only [List.mem_cons, List.mem_nil_iff, or_false] at hx
                    rcases hx with rfl | rfl | rfl <;> exact ⟨_, rfl⟩
                  have R4 := R3.draw k3 B3
                  refine ⟨_, _, rfl, rfl, _, rfl, by show 2 ≤ sizeLine; decide, fun q nq => ?_⟩
                  refine ⟨q, _, rfl, SqT.of upd_same, rfl, _, _, rfl, _, _, rfl, rfl, ?_⟩
                  with_reducible conv => whnf
                  refine tail2 _ _ ?_
                  exact ⟨_, _, _, _, rfl, (R4.same (Same.put nq)).mono (by omega)⟩
                · refine ⟨_, rfl, s, _, _, _, rfl, rfl, R2.shp, sh0 x y t, _, _, rfl, rfl, by show 2 ≤ sizeLine; decide, fun q nq => ?_⟩
                  refine ⟨q, _, rfl, SqT.of upd_same, rfl, _, _, rfl, _, _, rfl, rfl, ?_⟩
                  with_reducible conv => whnf
                  refine tail2 _ _ ?_
                  exact ⟨_, _, _, _, rfl, (R2.same (Same.put nq)).mono (by omega)⟩
              · refine ⟨_, rfl, s, _, _, _, rfl, rfl, R2.shp, sh0 x y t, _, _, rfl, rfl, by show 2 ≤ sizeLine; decide, fun q nq => ?_⟩
                refine ⟨q, _, rfl, SqT.of upd_same, rfl, _, _, rfl, _, _, rfl, rfl, ?_⟩
                with_reducible conv => whnf
                refine tail2 _ _ ?_
                exact ⟨_, _, _, _, rfl, (R2.same (Same.put nq)).mono (by omega)⟩
            · refine nxt ?_
              with_reducible conv => whnf
              refine tail2 _ _ ?_
              exact ⟨_, _, _, _, rfl, R.mono (by omega)⟩
        · refine ⟨_, rfl, rfl, _, rfl, ?_⟩
          refine ite2 (fun h1 => ?_) (fun h1 => ?_)
          · refine ⟨_, rfl, rfl, b, _, 31, rfl, R2.bag, by omega, by decide, by decide, fun r3 H4 r30 r31 k3 B3 _ => ⟨_, _, rfl, rfl, _, rfl, rfl, b, _, 15, rfl, B3, by omega, by decide, by decide, fun r4 H5 r40 r41 k4 B4 _ => ⟨_, _, rfl, rfl, _, _, rfl, ?_⟩⟩⟩
            with_reducible conv => whnf
            refine tail1 _ _ ?_
            exact ⟨_, _, rfl, (R2.draw k3 B3).draw k4 B4⟩
          · refine nxt ?_
            with_reducible conv => whnf
            refine tail1 _ _ ?_
            exact ⟨_, _, rfl, R2.mono (by omega)⟩
      · rintro σ H' ⟨told, l, v1, v2, v3, v4, v5, rfl, R⟩
        exact k H' R.kp (R.bag.mono (by omega))
    · refine ⟨_, rfl, s, _, _, _, rfl, rfl, R3.shp, sh0 x y t, _, rfl, s, _, _, _, rfl, rfl, R3.shp, sh1 x y t, _, _, rfl, rfl, .inr ⟨by have := G.h0; omega, by have := G.h1; omega⟩, _, _, rfl, rfl, _, rfl, ?_⟩
      refine ite2 (fun hle => ?_) (fun hle => ?_)
      · have hle' : x * y ≤ 150 := of_decide_eq_true hle
        have h1 : 1 ≤ x * y := by
          have a := Int.mul_le_mul (show 1 ≤ x by have := G.w0; omega) (show 1 ≤ y by have := G.h0; omega) (by decide) (by have := G.w0; omega)
          rw [Int.one_mul] at a
          exact a
        obtain ⟨dx, hp⟩ := R3.tor.ex
        refine ⟨_, rfl, p, dx, _, rfl, hp, rfl, p, x, y, t, rfl, R3.tor, G, hle', fun q H3 s3 nq hq => ?_⟩
        have R4 := R3.same s3
        refine ⟨_, rfl, _, rfl, rfl, s, x, y, t, rfl, R4.shp, G, hle', fun u H4 s4 nu hu => ?_⟩
        refine ⟨rfl, _, _, rfl, lk_sites (by omega) (hq.same s4) hu, fun H5 s5 => ⟨_, rfl, ?_⟩⟩
        refine iteF ?_
        obtain ⟨ps, q1, q2, q3⟩ := hq.ex
        have q5 := s5 _ _ (s4 _ _ q1)
        have hl : (ps.map V.ref).length = ps.length := List.length_map _
        refine ⟨_, rfl, .inl ⟨rfl, _, SqL.of q5⟩, q, _, (ps.map V.ref)[(ps.map V.ref).length - 1]'(by omega), rfl, rfl, q5, List.getElem?_eq_getElem _, ?_⟩
        have s6 := Same.keepD (o := .lst (ps.map V.ref).dropLast) (s3.trans (s4.trans s5)) nq
        have R6 := R3.same s6
        obtain ⟨dx, hp⟩ := R6.tor.ex
        refine ⟨_, rfl, p, dx, _, rfl, hp, rfl, p, x, y, t, rfl, R6.tor, G, hle', fun q' H7 s7 nq' hq' => ?_⟩
        have R7 := R6.same s7
        refine ⟨_, rfl, rfl, s, x, y, t, rfl, R7.shp, G, hle', fun u' H8 s8 nu' hu' => ?_⟩
        refine ⟨rfl, _, _, rfl, lk_sites (by omega) (hq'.same s8) hu', fun H9 s9 => ⟨_, rfl, ?_⟩⟩
        refine iteF ?_
        refine nxt ?_
        with_reducible conv => whnf
        refine tail _ _ ?_
        exact ⟨_, rfl, (R7.same s8).same s9⟩
      · refine nxt ?_
        with_reducible conv => whnf
        refine tail _ _ ?_
        exact ⟨_, rfl, R3⟩
end
end K40
/-! part WA40 -/
set_option Elab.async false
set_option linter.all false
set_option maxRecDepth 100000
set_option maxHeartbeats 4000000
namespace K40
open PySem L2 GX
/-- what stands while a list of our own at D is filled -/
structure BM (K : PySem.W.Frag) (H0 H : Hp) (b : Addr) (n : Nat) (s : Addr) (x y t : Int) (D : Addr) (l : List V) : Prop where
  kp : Kp b H0 H
  bag : BagAt H b n
  apart : ∀ L r, H b = some (.lst (.ref L :: r)) → L ≠ D
  new : H0 D = none
  ne : b ≠ D
  at_ : H D = some (.lst l)
  shp : SqT K H s (shapeV x y t)
section
variable {K : PySem.W.Frag} {H0 H H' : Hp} {b : Addr} {n : Nat} {s D : Addr} {x y t : Int} {l : List V}
theorem BM.same (R : BM K H0 H b n s x y t D l) (e : Same H H') : BM K H0 H' b n s x y t D l := by
  refine ⟨R.kp.trans (Same.kp e), R.bag.same e, fun L r h => ?_, R.new, R.ne, e _ _ R.at_, GX.Same.sqT e R.shp⟩
  obtain ⟨L', ns, i, cell, mixed, cnt, h1, _⟩ := R.bag.ex
  have h2 := (e _ _ h1).symm.trans h
  cases h2
  exact R.apart _ _ h1
theorem BM.draw {m : Nat} (R : BM K H0 H b n s x y t D l) (k : Kp b H H') (B : BagAt H' b m) (hd : Hd b H H') : BM K H0 H' b m s x y t D l := by
  refine ⟨R.kp.trans k, B, fun L r h => ?_, R.new, R.ne, k _ _ R.at_ R.ne.symm, R.bag.sqT k R.shp⟩
  obtain ⟨L', ns, i, cell, mixed, cnt, h1, _⟩ := R.bag.ex
  obtain ⟨r', h2⟩ := hd _ _ h1
  have h3 := h2.symm.trans h
  cases h3
  exact R.apart _ _ h1
theorem BM.put {l' : List V} (R : BM K H0 H b n s x y t D l) : BM K H0 (upd H D (.lst l')) b n s x y t D l' := by
  obtain ⟨L, ns, i, cell, mixed, cnt, h1, h2, h3⟩ := R.bag.ex
  have hL := R.apart _ _ h1
  refine ⟨fun c o e nb => ?_, ⟨L, ns, i, cell, mixed, cnt, (upd_ne R.ne).trans h1, (upd_ne hL).trans h2, h3⟩, fun L' r h => ?_, R.new, R.ne, upd_same, ?_⟩
  · rw [upd_ne (ne_of_none e R.new)]
    exact R.kp c o e nb
  · rw [upd_ne R.ne, h1] at h
    cases h
    exact hL
  · rcases R.shp with (h | ⟨o, h⟩) | h
    · exact .inl (.inl ((upd_ne (ne_of h R.at_ (by intro z; cases z))).trans h))
    · exact .inl (.inr ⟨o, (upd_ne (ne_of h R.at_ (by intro z; cases z))).trans h⟩)
    · exact .inr h
theorem BM.mono {m : Nat} (R : BM K H0 H b n s x y t D l) (h : n ≤ m) : BM K H0 H b m s x y t D l := ⟨R.kp, R.bag.mono h, R.apart, R.new, R.ne, R.at_, R.shp⟩
end
theorem BagAt.fresh {H : Hp} {b D : Addr} {n : Nat} (B : BagAt H b n) (h : H D = none) : ∀ L r, H b = some (.lst (.ref L :: r)) → L ≠ D := fun L r e => by
  obtain ⟨L', ns, i, cell, mixed, cnt, h1, h2, _⟩ := B.ex
  have z := h1.symm.trans e
  cases z
  exact ne_of_none h2 h
def spWords (K : PySem.W.Frag) : Sp := fun vs H Q _ => ∃ (b s : Addr) (n : Nat) (x y t : Int), vs = [.ref b, .ref s] ∧ BagAt H b n ∧ n < 1000000 ∧ SqT K H s (shapeV x y t) ∧ Good x y t ∧
  ∀ (q : Addr) (ws : List Str) (H' : Hp), Kp b H H' → H q = none → H' q = some (.lst (ws.map V.str)) → ws.length ≤ 5 → (∀ z ∈ ws, WordOk z) → BagAt H' b (n + 20) → Q (.ref q) H'
def ws0 (x y t : Int) : List Str := [((toString x : String) : Str), ((toString y : String) : Str), ((toString t : String) : Str)]
theorem ws0_ok {x y t : Int} (G : Good x y t) : ∀ z ∈ ws0 x y t, WordOk z := by
  have lx := strT (by have := G.w0; omega : 0 ≤ x) G.w1
  have ly := strT (by have := G.h0; omega : 0 ≤ y) G.h1
  have lt := strT G.t0 (by have := G.t1; have := G.w1; omega : t ≤ 1000)
  intro z hz
  simp only [ws0, List.mem_cons, List.mem_nil_iff, or_false] at hz
  rcases hz with rfl | rfl | rfl
  · rw [lx.1]; exact (nT_ok (by have := G.w1; omega)).1
  · rw [ly.1]; exact (nT_ok (by have := G.h1; omega)).1
  · rw [lt.1]; exact (nT_ok (by have := G.t1; have := G.w1; omega)).1
theorem shape_at {x y t : Int} {i : Nat} {v : V} (G : Good x y t) (h : (shapeV x y t)[i]? = some v) : ∃ m : Int, v = .int m ∧ 0 ≤ m ∧ m ≤ 1000 ∧ (ws0 x y t)[i]? = some ((toString m : String) : Str) := by
  have t1 := G.t1
  have w1 := G.w1
  have h1 := G.h1
  have w0 := G.w0
  have h0 := G.h0
  have t0 := G.t0
  match i, h with
  | 0, h => cases h; exact ⟨_, rfl, by omega, by omega, rfl⟩
  | 1, h => cases h; exact ⟨_, rfl, by omega, by omega, rfl⟩
  | 2, h => cases h; exact ⟨_, rfl, by omega, by omega, rfl⟩
  | n + 3, h => simp [shapeV] at h
theorem dp_strs {K : PySem.W.Frag} {H : Hp} : ∀ ws : List Str, DpAll K H (ws.map V.str) (ws.map PyData.str)
  | [] => .nil
  | z :: r => .cons (.str z) (dp_strs r)
theorem canAll {ws : List Str} (h : ∀ z ∈ ws, WordOk z) : PyData.canLayAll0 (ws.map PyData.str) = true := by
  induction ws with
  | nil => simp [PyData.canLayAll0]
  | cons a r ih =>
    have h1 := (h a (List.mem_cons_self ..)).ok
    have h2 := ih fun z hz => h z (List.mem_cons_of_mem _ hz)
    rw [List.map_cons]
    simp [PyData.canLayAll0, PyData.canLay0, h1, h2]
theorem shaped5 {ws : List Str} (h : ∀ z ∈ ws, WordOk z) : SeqAt.shaped (.list (ws.map PyData.str)) = true := by
  unfold SeqAt.shaped
  have h1 := canAll h
  have h2 : PyData.depth (.list (ws.map PyData.str)) ≤ 64 := by
    have : ∀ l : List Str, PyData.depthAll (l.map PyData.str) ≤ 1 := fun l => by
      induction l with
      | nil => simp [PyData.depthAll]
      | cons a r ih =>
        rw [List.map_cons]
        simp [PyData.depthAll, PyData.depth]
        omega
    have := this ws
    simp [PyData.depth]
    omega
  rw [Bool.and_eq_true]
  exact ⟨by simpa [PyData.canLay0] using h1, decide_eq_true h2⟩
theorem eqv_nil (ws : List Str) : PyData.eqv (.list (ws.map PyData.str)) (.list []) = ws.isEmpty := by
  cases ws with
  | nil => rfl
  | cons a r => rfl
theorem seq_nat {m : Int} {n : Nat} (h0 : 0 ≤ m) (h : m < n) : seqIndex? m n = some m.toNat := by
  have e1 : ¬ m < 0 := by omega
  have e2 : (0 ≤ m && m < n) = true := by simp [h0, h]
  simp [seqIndex?, e1, h0, h]
end K40
/-! part WB40 -/
set_option Elab.async false
set_option linter.all false
set_option maxRecDepth 100000
set_option maxHeartbeats 4000000
namespace K40
open PySem L2 GX
theorem min_mem {k m : Int} {n : Nat} (h0 : 0 ≤ k) (hn : 0 < n) (hm : m ∈ [k, (n : Int) - 1]) (hle : ∀ y ∈ [k, (n : Int) - 1], m ≤ y) : 0 ≤ m ∧ m < n := by
  have h1 := hle k (List.mem_cons_self ..)
  have h2 := hle ((n : Int) - 1) (List.mem_cons_of_mem _ (List.mem_cons_self ..))
  simp only [List.mem_cons, List.mem_nil_iff, or_false] at hm
  rcases hm with rfl | rfl <;> omega
theorem gnm {i : Nat} {v : V} {σ : L2.St} {H : Hp} {Q : L2.St → Hp → Prop} (h : Q (σ.set i (some v)) H) : gName i v σ H Q := h
theorem ix_nat {m : Int} {n : Nat} (h0 : 0 ≤ m) (h : m < n) : ixN n m = some m.toNat := by
  unfold ixN
  rw [if_pos h0, if_pos h]
section
variable {P : Program} {w : World} {K : PySem.W.Frag} {mg : Str → Option Value} {base : Heap} {C CB cM fB DBOUNDS : Addr} {ca : Nat → Addr} {f : Addr} {fd : FuncData}
/-- the state between two turns -/
def WSt (K : PySem.W.Frag) (H : Hp) (b s : Addr) (x y t : Int) (D : Addr) (n m : Nat) (σ : L2.St) (H' : Hp) : Prop := ∃ (l1 l2 l3 l4 l5 : Option V) (ws : List Str), σ = [some (.ref b), some (.ref s), some (.ref D), l1, l2, l3, l4, l5] ∧ BM K H H' b n s x y t D (ws.map V.str) ∧ ws.length ≤ m ∧ ∀ z ∈ ws, WordOk z
theorem ok_words (F : Fun K "_law_words" "_law_words" s_law_words f fd) (T : Txt K mg C CB) (g_law_draw : CalN P w K mg base 1 "_law_draw" 2 [] (sk spDraw)) (g_law_of : CalN P w K mg base 2 "_law_of" 2 [] (sk (spOf K))) :
    FnOk P w K mg base CX0 3 f fd ["bag", "shape"] (spWords K) := by
  refine F.ok sc_law_words (fun vs H Q E h => ?_) (fun cdv A outer st H vs Q E hr h => ?_)
  · obtain ⟨b, s, n, x, y, t, rfl, _⟩ := h
    rfl
  · obtain ⟨b, s, n, x, y, t, rfl, hB, hn, hS, G, k⟩ := h
    have nd := sc_law_words.nd
    refine ⟨_, (pss_cons (ps_setLc (i := 2) (own := [("n", 7)]) (g := gName 7) (tt := tYes) rfl nd rfl rfl (sw_true rfl rfl rfl (by decide +kernel)) (pi_tup (pv 1)) (blkOk_by (own := [("n", 7)]) (N := ["bag", "shape", "mine", "lap", "pick", "k", "bad", "n"]) (sc := defScope s_law_words) (by decide +kernel)) (fun _ _ _ _ _ => (pg_name (i := 7) nd rfl (Or.inl rfl))) (fun _ _ _ _ _ => pts_nil) (fun _ _ _ _ _ => (pe_callTy call_str_int rfl T.m_str (by decide +kernel) (pa_cons (pv 7) pa_nil))))
    (pss_cons (ps_if (PW.pt (pw_and (pt_cmpR op_eq (pe_ix ix_tup (pv 1) pe_int (fun _ _ => rfl)) pe_int (nomark _)) (pw_and1 (pt_cmpR op_eq (pn_f g_law_draw hr (by decide) takes0N rfl (pa_cons (pv 0) (pa_cons pe_int pa_nil))) pe_int (nomark _)))))
      (pss_one (ps_expr (pe_bm0 PySem.F.plainAttrs_list PySem.F.slot_list_pop PySem.F.type_list_pop mt_pop (pv 2))))
      pss_nil)
    (pss_cons (ps_for PassesOwn.never rfl (pi_range1 rfl T.m_range (pa_cons (pn_f g_law_draw hr (by decide) takes0N rfl (pa_cons (pv 0) (pa_cons pe_int pa_nil))) pa_nil)) (pg_name (i := 3) nd rfl (Or.inl rfl))
      (pss_cons (ps_par (i := 4) (j := 5) rfl nd rfl rfl (by decide) rfl rfl (pa_cons (pn_f g_law_draw hr (by decide) takes0N rfl (pa_cons (pv 0) (pa_cons pe_int pa_nil))) (pa_cons (pn_f g_law_draw hr (by decide) takes0N rfl (pa_cons (pv 0) (pa_cons (pe_op op_add (pe_callB call_len rfl T.m_len (by decide +kernel) (pa_cons (pv 2) pa_nil)) pe_int) pa_nil))) pa_nil)) rfl)
      (pss_cons (ps_set (i := 6) nd rfl (Or.inl rfl) (pn_f g_law_of hr (by decide) takes0N rfl (pa_cons (pv 0) (pa_cons (pe_lst (pa_cons pe_str (pa_cons pe_str (pa_cons pe_str (pa_cons pe_str (pa_cons pe_str (pa_cons pe_str (pa_cons pe_str (pa_cons pe_str (pa_cons pe_str (pa_cons pe_str (pa_cons pe_str (pa_cons pe_str (pa_cons pe_str (pa_cons pe_str (pa_cons pe_str (pa_cons pe_str pa_nil))))))))))))))))) pa_nil))))
      (pss_one (ps_if (pt_cmpR op_eq (pv 4) pe_int (nomark _))
        (pss_one (ps_expr (pe_bm PySem.F.plainAttrs_list PySem.F.slot_list_insert PySem.F.type_list_insert mt_insert (pv 2) (pa_cons (pv 5) (pa_cons (pv 6) pa_nil)))))
        (pss_one (ps_if (PW.pt (pw_and (pt_cmpR op_eq (pv 4) pe_int (nomark _)) (pw_and1 (pt_cmpR (op_neD hr.units) (pv 2) (pe_lst pa_nil) (nomark _)))))
          (pss_one (ps_expr (pe_bm PySem.F.plainAttrs_list PySem.F.slot_list_pop PySem.F.type_list_pop mt_popAt (pv 2) (pa_cons (pe_callB (cr_min rfl) rfl T.m_min (by decide +kernel) (pa_cons (pe_lst (pa_cons (pv 5) (pa_cons (pe_op op_sub (pe_callB call_len rfl T.m_len (by decide +kernel) (pa_cons (pv 2) pa_nil)) pe_int) pa_nil))) pa_nil)) pa_nil))))
          (pss_one (ps_if (pt_cmpR (op_neD hr.units) (pv 2) (pe_lst pa_nil) (nomark _))
            (pss_one (ps_asg (pv 6) (pg_sub (pv 2) (pe_callB (cr_min rfl) rfl T.m_min (by decide +kernel) (pa_cons (pe_lst (pa_cons (pv 5) (pa_cons (pe_op op_sub (pe_callB call_len rfl T.m_len (by decide +kernel) (pa_cons (pv 2) pa_nil)) pe_int) pa_nil))) pa_nil)) set_list)))
            pss_nil)))))))))
    (pss_one (ps_ret (pv 2)))))), ?_⟩
    refine ⟨_, rfl, s, rfl, ⟨_, hS⟩, fun D nD => ?_⟩
    refine lc_tup (K := K) (a := s) (xs := shapeV x y t) (fun i H' => Same H H' ∧ H' D = some (.lst (((ws0 x y t).take i).map V.str))) ⟨Same.put nD, upd_same⟩ (fun i H' _ ⟨s1, _⟩ => GX.Same.sqT s1 hS) ?_ ?_
    · rintro i v H' hv ⟨s1, hD⟩
      obtain ⟨m, rfl, m0, m1, hz⟩ := shape_at G hv
      refine ⟨rfl, tyes (iteT ?_)⟩
      refine ⟨_, rfl, m, rfl, (strT m0 m1).2.2, _, hD, ?_, Same.keepD s1 nD, ?_⟩
      · rw [List.length_map, List.length_take]
        exact Nat.lt_of_lt_of_le (by have : (ws0 x y t).length = 3 := rfl
                                     omega : _ < 1000) (by decide)
      · rw [upd_same, List.take_add_one, hz]
        simp only [List.map_append, Option.toList_some, List.map_cons, List.map_nil]
    rintro H1 ⟨s1, hD⟩
    have hD1 : H1 D = some (.lst ((ws0 x y t).map V.str)) := hD
    have R1 : BM K H H1 b n s x y t D ((ws0 x y t).map V.str) := ⟨Same.kp s1, hB.same s1, fun L r e => by
        obtain ⟨L', ns, i, cell, mixed, cnt, h1, h2, _⟩ := hB.ex
        have z := (s1 _ _ h1).symm.trans e
        cases z
        exact ne_of_none h2 nD, nD, hB.ne nD, hD1, GX.Same.sqT s1 hS⟩
    refine gnm ?_
    with_reducible conv => whnf
    refine seq_cut (WSt K H b s x y t D (n + 1) 3) ?_ fun tail1 => ?_
    · rintro σ H2 ⟨l1, l2, l3, l4, l5, ws, rfl, R, hw3, hwo⟩
      refine ⟨_, rfl, rfl, b, _, 3, rfl, R.bag, by omega, by decide, by decide, fun r H3 r0 r1 k1 B1 d1 => ?_⟩
      have R2 := R.draw k1 B1 d1
      refine ⟨r, rfl, by omega, by omega, for_range (n := r.toNat) (fun i => WSt K H b s x y t D (n + 2 + 4 * i) (3 + i)) ⟨l1, l2, l3, l4, l5, ws, rfl, R2, hw3, hwo⟩ ?_ ?_⟩
      · rintro i σ H4 hi ⟨l1, l2, l3, l4, l5, ws, rfl, R, hw3, hwo⟩
        have hlen : (ws.map V.str).length = ws.length := List.length_map _
        refine ⟨_, rfl, rfl, b, _, 4, rfl, R.bag, by omega, by decide, by decide, fun p H5 p0 p1 k1 B1 d1 => ?_⟩
        have R3 := R.draw k1 B1 d1
        refine ⟨_, rfl, _, rfl, _, _, rfl, .inl ⟨_, SqL.of R3.at_, rfl⟩, _, _, rfl, rfl, rfl, b, _, _, rfl, R3.bag, by omega, by omega, by omega, fun q H6 q0 q1 k2 B2 d2 => ?_⟩
        have R4 := R3.draw k2 B2 d2
        refine ⟨_, _, rfl, ?_⟩
        refine ⟨_, rfl, by show 16 ≤ sizeLine; decide, fun l nl => ⟨rfl, b, l, _, _, rfl, (R4.same (Same.put nl)).bag, by omega, upd_same, (R4.bag.ne nl).symm, by decide, by decide, fun xv H7 hx k3 B3 d3 => ?_⟩⟩
        have R5 := (R4.same (Same.put nl)).draw k3 B3 d3
        obtain ⟨z, hz, rfl⟩ : ∃ z, z ∈ lits ∧ V.str z = xv := List.mem_map.mp (show xv ∈ lits.map V.str from hx)
        have hzo := lit_ok hz
        have l5' : ws.length ≤ 5 := by omega
        -- what a turn may leave
        have fin : ∀ (H8 : Hp) (ws' : List Str), BM K H H8 b (n + 2 + 4 * i + 4) s x y t D (ws'.map V.str) → ws'.length ≤ 3 + (i + 1) → (∀ z ∈ ws', WordOk z) → WSt K H b s x y t D (n + 2 + 4 * (i + 1)) (3 + (i + 1)) [some (.ref b), some (.ref s), some (.ref D), some (.int (0 + (i : Int))), some (.int p), some (.int q), some (.str z), l5] H8 :=
          fun H8 ws' R hl ho => ⟨_, _, _, _, _, ws', rfl, R.mono (by omega), hl, ho⟩
        refine ⟨_, rfl, rfl, _, rfl, ?_⟩
        refine ite2 (fun h0 => ?_) (fun h0 => ?_)
        · refine ⟨_, rfl, .inl ⟨rfl, _, SqL.of R5.at_⟩, _, rfl, _, rfl, D, _, _, _, rfl, rfl, R5.at_, Nat.lt_of_lt_of_le (by rw [hlen]; omega : _ < 1000) (by decide), q0, by omega, ?_⟩
          refine fin _ (ws.take q.toNat ++ [z] ++ ws.drop q.toNat) ?_ ?_ ?_
          · have e : (ws.take q.toNat ++ [z] ++ ws.drop q.toNat).map V.str = (ws.map V.str).take q.toNat ++ [V.str z] ++ (ws.map V.str).drop q.toNat := by
              rw [List.map_append, List.map_append, List.map_take, List.map_drop]
              rfl
            rw [e]
            exact (R5.put).mono (by omega)
          · simp only [List.length_append, List.length_take, List.length_drop, List.length_cons, List.length_nil]
            omega
          · intro u hu
            rw [List.mem_append, List.mem_append, List.mem_singleton] at hu
            rcases hu with (hu | rfl) | hu
            · exact hwo u (List.mem_of_mem_take hu)
            · exact hzo
            · exact hwo u (List.mem_of_mem_drop hu)
        -- the two ways in which the list may be cut or changed
        have lastW : ∀ (H8 : Hp), BM K H H8 b (n + 2 + 4 * i + 4) s x y t D (ws.map V.str) → (tIfS (tTest (tOp (rNeD K) (tVar 2) (tLst tNil))) (tAsg (tVar 6) (gSub (tVar 2) (tCB (rMin K) (tCons (tLst (tCons (tVar 5) (tCons (tOp (rI0 fun i j => .int (i - j)) (tCB (fun xs H Q => ∃ x n, xs = [x] ∧ LenV K x H n ∧ Q (.int n) H) (tCons (tVar 2) tNil)) (tC (.int 1))) tNil))) tNil)) rSetL)) tNext)
            { nx := WSt K H b s x y t D (n + 2 + 4 * (i + 1)) (3 + (i + 1)), rt := Q } [some (.ref b), some (.ref s), some (.ref D), some (.int (0 + (i : Int))), some (.int p), some (.int q), some (.str z), l5] H8 := by
          intro H8 R8
          refine ⟨_, rfl, by show 0 ≤ sizeLine; decide, fun u nu => ⟨_, _, .lst (SqL.of (R8.same (Same.put nu)).at_) (dp_strs ws), .lst (SqL.of upd_same) .nil, shaped5 hwo, rfl, _, rfl, ?_⟩⟩
          have R9 := R8.same (Same.put (o := .lst []) nu)
          rw [eqv_nil]
          cases hE : ws.isEmpty with
          | true =>
            refine iteF ?_
            exact fin _ ws R9 (by omega) hwo
          | false =>
            have hpos : 0 < ws.length := by
              cases ws with
              | nil => cases hE
              | cons a r => simp
            refine iteT ?_
            refine ⟨_, rfl, _, rfl, _, rfl, _, rfl, _, _, rfl, .inl ⟨_, SqL.of R9.at_, rfl⟩, _, _, rfl, rfl, by show 2 ≤ sizeLine; decide, fun v nv => ?_⟩
            have R10 := R9.same (Same.put (o := .lst [V.int q, V.int (((ws.map V.str).length : Int) - 1)]) nv)
            refine ⟨v, [q, ((ws.map V.str).length : Int) - 1], rfl, SqL.of upd_same, Nat.zero_lt_succ _, fun m hm hle => ?_⟩
            rw [hlen] at hm hle
            obtain ⟨m0, m1⟩ := min_mem q0 hpos hm hle
            refine ⟨D, _, m, m.toNat, rfl, rfl, R10.at_, ix_nat m0 (by rw [hlen]; exact m1), ?_⟩
            refine fin _ (ws.set m.toNat z) ?_ ?_ ?_
            · rw [List.map_set]
              exact R10.put
            · rw [List.length_set]
              omega
            · intro u hu
              rcases List.mem_or_eq_of_mem_set hu with hu | rfl
              · exact hwo u hu
              · exact hzo
        refine ⟨_, rfl, rfl, _, rfl, ?_⟩
        refine ite2 (fun h1 => ?_) (fun h1 => ?_)
        · refine ⟨_, rfl, by show 0 ≤ sizeLine; decide, fun u nu => ⟨_, _, .lst (SqL.of (R5.same (Same.put nu)).at_) (dp_strs ws), .lst (SqL.of upd_same) .nil, shaped5 hwo, rfl, _, rfl, ?_⟩⟩
          have R9 := (R5.same (Same.put (o := .lst []) nu)).mono (show n + 2 + 4 * i + 1 + 1 + 1 ≤ n + 2 + 4 * i + 4 by omega)
          rw [eqv_nil]
          cases hE : ws.isEmpty with
          | true =>
            refine iteF ?_
            exact lastW _ R9
          | false =>
            have hpos : 0 < ws.length := by
              cases ws with
              | nil => cases hE
              | cons a r => simp
            refine iteT ?_
            refine ⟨_, rfl, .inl ⟨rfl, _, SqL.of R9.at_⟩, _, rfl, _, rfl, _, _, rfl, .inl ⟨_, SqL.of R9.at_, rfl⟩, _, _, rfl, rfl, by show 2 ≤ sizeLine; decide, fun v nv => ?_⟩
            have R10 := R9.same (Same.put (o := .lst [V.int q, V.int (((ws.map V.str).length : Int) - 1)]) nv)
            refine ⟨v, [q, ((ws.map V.str).length : Int) - 1], rfl, SqL.of upd_same, Nat.zero_lt_succ _, fun m hm hle => ?_⟩
            rw [hlen] at hm hle
            obtain ⟨m0, m1⟩ := min_mem q0 hpos hm hle
            have hk : m.toNat < (ws.map V.str).length := by rw [hlen]; omega
            refine ⟨D, _, m, m.toNat, _, rfl, rfl, R10.at_, by omega, by omega, seq_nat m0 (by rw [hlen]; exact m1), List.getElem?_eq_getElem hk, ?_⟩
            refine fin _ (ws.take m.toNat ++ ws.drop (m.toNat + 1)) ?_ ?_ ?_
            · have e : (ws.take m.toNat ++ ws.drop (m.toNat + 1)).map V.str = (ws.map V.str).eraseIdx m.toNat := by
                rw [List.eraseIdx_eq_take_drop_succ, List.map_append, List.map_take, List.map_drop]
              rw [e]
              exact R10.put
            · simp only [List.length_append, List.length_take, List.length_drop]
              omega
            · intro u hu
              rw [List.mem_append] at hu
              rcases hu with hu | hu
              · exact hwo u (List.mem_of_mem_take hu)
              · exact hwo u (List.mem_of_mem_drop hu)
        · exact lastW _ (R5.mono (by omega))
      · rintro σ H4 ⟨l1, l2, l3, l4, l5, ws, rfl, R, hw3, hwo⟩
        exact ⟨_, rfl, k D ws H4 R.kp nD R.at_ (by omega) hwo (R.bag.mono (by omega))⟩
    · refine ⟨_, rfl, s, _, _, _, rfl, rfl, R1.shp, sh2 x y t, rfl, _, rfl, ?_⟩
      refine ite2 (fun h0 => ?_) (fun h0 => ?_)
      · refine ⟨_, rfl, rfl, b, _, 2, rfl, R1.bag, by omega, by decide, by decide, fun r H2 r0 r1 k1 B1 d1 => ⟨rfl, _, rfl, ?_⟩⟩
        have R2 := R1.draw k1 B1 d1
        refine ite2 (fun h1 => ?_) (fun h1 => ?_)
        · refine ⟨_, rfl, .inl ⟨rfl, _, SqL.of R2.at_⟩, D, _, _, rfl, rfl, R2.at_, rfl, ?_⟩
          with_reducible conv => whnf
          refine tail1 _ _ ?_
          exact ⟨_, _, _, _, _, [((toString x : String) : Str), ((toString y : String) : Str)], rfl, R2.put, (by show 2 ≤ 3; decide), fun z hz => ws0_ok G z (by
            simp only [List.mem_cons, List.mem_nil_iff, or_false] at hz
            rcases hz with rfl | rfl
            · exact List.mem_cons_self ..
            · exact List.mem_cons_of_mem _ (List.mem_cons_self ..))⟩
        · refine nxt ?_
          with_reducible conv => whnf
          refine tail1 _ _ ?_
          exact ⟨_, _, _, _, _, ws0 x y t, rfl, R2, Nat.le_refl 3, ws0_ok G⟩
      · refine iteF ?_
        refine nxt ?_
        with_reducible conv => whnf
        refine tail1 _ _ ?_
        exact ⟨_, _, _, _, _, ws0 x y t, rfl, R1.mono (by omega), Nat.le_refl 3, ws0_ok G⟩
end
end K40
/-! part XA40 -/
set_option Elab.async false
set_option linter.all false
set_option maxRecDepth 100000
set_option maxHeartbeats 4000000
namespace K40
open PySem L2 GX
def spTrue (K : PySem.W.Frag) (m : Nat) : Sp := fun vs H Q _ => ∃ (b s : Addr) (n : Nat) (x y t : Int), vs = [.ref b, .ref s] ∧ BagAt H b n ∧ n < 900000 ∧ SqT K H s (shapeV x y t) ∧ Good x y t ∧ ∀ H', Kp b H H' → BagAt H' b (n + m) → Q (.bl true) H'
section
variable {P : Program} {w : World} {K : PySem.W.Frag} {mg : Str → Option Value} {base : Heap} {C CB cM fB DBOUNDS : Addr} {ca : Nat → Addr} {f : Addr} {fd : FuncData}
theorem ok_bent (F : Fun K "_law_bent_so" "_law_bent_so" s_law_bent_so f fd) (T : Txt K mg C CB) (g_law_draw : CalN P w K mg base 1 "_law_draw" 2 [] (sk spDraw)) (g_law_of : CalN P w K mg base 2 "_law_of" 2 [] (sk (spOf K)))
    (g_law_like : CalN P w K mg base 3 "_law_like" 2 [] (sk (spLike K 3))) (g_law_called : CalN P w K mg base 3 "_law_called" 1 [] (sk (spCalled C))) (g_law_range : CalN P w K mg base 1 "_law_range" 1 [] (sk spRange)) (g_law_ring_so : CalN P w K mg base 4 "_law_ring_so" 3 [] (sk (spRing K C))) :
    FnOk P w K mg base CX0 5 f fd ["bag", "shape"] (spTrue K 60) := by
  refine F.ok sc_law_bent_so (fun vs H Q E h => ?_) (fun cdv A outer st H vs Q E hr h => ?_)
  · obtain ⟨b, s, n, x, y, t, rfl, _⟩ := h
    rfl
  · obtain ⟨b, s, n, x, y, t, rfl, hB, hn, hS, G, k⟩ := h
    have nd := sc_law_bent_so.nd
    have w0 := G.w0
    have h0 := G.h0
    refine ⟨_, (pss_cons (ps_set (i := 2) nd rfl (Or.inl rfl) (pe_callTy call_list_of rfl T.m_list (by decide +kernel) (pa_cons (pv 1) pa_nil)))
    (pss_cons (ps_for PassesOwn.never rfl (pi_range1 rfl T.m_range (pa_cons (pe_op op_add pe_int (pn_f g_law_draw hr (by decide) takes0N rfl (pa_cons (pv 0) (pa_cons pe_int pa_nil)))) pa_nil)) (pg_name (i := 3) nd rfl (Or.inl rfl))
      (pss_cons (ps_set (i := 4) nd rfl (Or.inl rfl) (pn_f g_law_draw hr (by decide) takes0N rfl (pa_cons (pv 0) (pa_cons pe_int pa_nil))))
      (pss_cons (ps_asg (pn_f g_law_of hr (by decide) takes0N rfl (pa_cons (pv 0) (pa_cons (pe_lst (pa_cons pe_int (pa_cons (pe_un un_neg pe_int) (pa_cons (pe_un un_neg pe_int) (pa_cons (pe_un un_neg (pe_op op_pow pe_int pe_int)) pa_nil))))) pa_nil))) (pg_sub (pv 2) (pv 4) set_list))
      (pss_one (ps_if (pt_cmpR op_eq (pv 4) pe_int (nomark _))
        (pss_one (ps_asg (pn_f g_law_of hr (by decide) takes0N rfl (pa_cons (pv 0) (pa_cons (pe_lst (pa_cons (pe_ix ix_tup (pv 1) pe_int (fun _ _ => rfl)) (pa_cons (pe_op op_add (pe_ix ix_tup (pv 1) pe_int (fun _ _ => rfl)) pe_int) (pa_cons (pe_op op_pow pe_int pe_int) (pa_cons (pe_un un_neg pe_int) (pa_cons (pe_un un_neg (pe_ix ix_tup (pv 1) pe_int (fun _ _ => rfl))) (pa_cons (pe_op op_sub (pe_ix ix_tup (pv 1) pe_int (fun _ _ => rfl)) pe_int) pa_nil))))))) pa_nil))) (pg_sub (pv 2) (pv 4) set_list)))
        pss_nil)))))
    (pss_cons (ps_par (i := 5) (j := 6) rfl nd rfl rfl (by decide) rfl rfl (pa_cons (pn_f g_law_called hr (by decide) takes0N rfl (pa_cons (pv 2) pa_nil)) (pa_cons (pn_f g_law_range hr (by decide) takes0N rfl (pa_cons (pv 2) pa_nil)) pa_nil)) rfl)
    (pss_cons (ps_if (pt_cmpR op_lt (pv 6) pe_int (nomark _))
      (pss_one (ps_ret (pn_f g_law_like hr (by decide) takes0N rfl (pa_cons (pv 5) (pa_cons (pe_tup (pa_cons pe_str (pa_cons (pv 6) pa_nil))) pa_nil)))))
      pss_nil)
    (pss_one (ps_ret (pe_and (pe_cmpR op_eq (pe_ix ix_tup (pv 5) pe_int (fun _ _ => rfl)) pe_str (nomark _)) (pe_one (pn_f g_law_ring_so hr (by decide) takes0N rfl (pa_cons (pv 0) (pa_cons (pe_ix ix_tup (pv 5) pe_int (fun _ _ => rfl)) (pa_cons (pe_tup (pa_cons (pe_ix ix_list (pv 2) pe_int (fun _ _ => rfl)) (pa_cons (pe_ix ix_list (pv 2) pe_int (fun _ _ => rfl)) (pa_cons (pe_ix ix_list (pv 2) pe_int (fun _ _ => rfl)) pa_nil)))) pa_nil)))))))))))), ?_⟩
    refine ⟨_, rfl, s, _, rfl, .inr hS, fun D nD => ?_⟩
    have R0 : BM K H (upd H D (.lst (shapeV x y t))) b n s x y t D (shapeV x y t) := ⟨Same.kp (Same.put nD), hB.same (Same.put nD), fun L r e => by
        rw [upd_ne (hB.ne nD)] at e
        exact hB.fresh nD L r e, nD, hB.ne nD, upd_same, GX.Same.sqT (Same.put nD) hS⟩
    refine ⟨_, rfl, rfl, b, _, 2, rfl, R0.bag, by omega, by decide, by decide, fun r H1 r0 r1 k1 B1 d1 => ?_⟩
    have R1 := R0.draw k1 B1 d1
    refine ⟨_, _, rfl, rfl, 1 + r, rfl, by omega, by omega, for_range (n := (1 + r).toNat) (fun i σ H' => ∃ (l1 l2 l3 l4 : Option V) (a c e : Int), σ = [some (.ref b), some (.ref s), some (.ref D), l1, l2, l3, l4] ∧ BM K H H' b (n + 1 + 3 * i) s x y t D [.int a, .int c, .int e] ∧ (a = x ∨ a < 1) ∧ (c = y ∨ c < 1))
      ⟨_, _, _, _, x, y, t, rfl, R1, .inl rfl, .inl rfl⟩ ?_ ?_⟩
    · rintro i σ H2 hi ⟨l1, l2, l3, l4, a, c, e, rfl, R, ha, hc⟩
      have hi2 : i ≤ 1 := by omega
      refine ⟨_, rfl, rfl, b, _, 3, rfl, R.bag, by omega, by decide, by decide, fun q H3 q0 q1 k2 B2 d2 => ?_⟩
      have R2 := R.draw k2 B2 d2
      refine ⟨_, rfl, _, rfl, _, rfl, _, _, rfl, rfl, ⟨by decide, by decide, by decide⟩, _, rfl, by show 4 ≤ sizeLine; decide, fun l nl => ⟨rfl, b, l, _, _, rfl, (R2.same (Same.put nl)).bag, by omega, upd_same, (R2.bag.ne nl).symm, by decide, by decide, fun xv H4 hx k3 B3 d3 => ?_⟩⟩
      have R3 := (R2.same (Same.put nl)).draw k3 B3 d3
      obtain ⟨m, rfl, hm⟩ : ∃ m : Int, xv = .int m ∧ m < 1 := by
        simp only [List.mem_cons, List.mem_nil_iff, or_false] at hx
        rcases hx with rfl | rfl | rfl | rfl <;> exact ⟨_, rfl, by decide⟩
      refine ⟨_, rfl, _, rfl, D, _, q, q.toNat, rfl, rfl, R3.at_, ix_nat q0 q1, ?_⟩
      have R4 := R3.put (l' := [V.int a, V.int c, V.int e].set q.toNat (.int m))
      refine ⟨_, rfl, rfl, _, rfl, ?_⟩
      refine ite2 (fun h2 => ?_) (fun h2 => ?_)
      · have q2 : q = 2 := V.int.inj (of_decide_eq_true h2)
        subst q2
        refine ⟨_, rfl, _, rfl, s, _, _, _, rfl, rfl, R4.shp, sh0 x y t, _, rfl, s, _, _, _, rfl, rfl, R4.shp, sh0 x y t, _, _, rfl, rfl, _, _, rfl, rfl, ⟨by decide, by decide, by decide⟩, _, rfl, _, rfl, s, _, _, _, rfl, rfl, R4.shp, sh0 x y t, _, rfl, _, rfl, s, _, _, _, rfl, rfl, R4.shp, sh0 x y t, _, _, rfl, rfl, by show 6 ≤ sizeLine; decide, fun l nl => ⟨rfl, b, l, _, _, rfl, (R4.same (Same.put nl)).bag, by omega, upd_same, (R4.bag.ne nl).symm, Nat.zero_lt_succ _, (by show 6 < 1000; decide), fun xv H5 hx k4 B4 d4 => ?_⟩⟩
        have R5 := (R4.same (Same.put nl)).draw k4 B4 d4
        obtain ⟨m2, rfl⟩ : ∃ m : Int, xv = .int m := by
          simp only [List.mem_cons, List.mem_nil_iff, or_false] at hx
          rcases hx with rfl | rfl | rfl | rfl | rfl | rfl <;> exact ⟨_, rfl⟩
        refine ⟨_, rfl, _, rfl, D, _, 2, 2, rfl, rfl, R5.at_, rfl, ?_⟩
        exact ⟨_, _, _, _, a, c, m2, rfl, (R5.put (l' := [V.int a, V.int c, V.int m2])).mono (by omega), ha, hc⟩
      · have q2 : q ≠ 2 := fun z => h2 (decide_eq_true (by rw [z]))
        have q01 : q = 0 ∨ q = 1 := by omega
        rcases q01 with rfl | rfl
        · exact ⟨_, _, _, _, m, c, e, rfl, R4.mono (by omega), .inr hm, hc⟩
        · exact ⟨_, _, _, _, a, m, e, rfl, R4.mono (by omega), ha, .inr hm⟩
    · rintro σ H2 ⟨l1, l2, l3, l4, a, c, e, rfl, R, ha, hc⟩
      have hcount : n + 1 + 3 * (1 + r).toNat ≤ n + 10 := by omega
      refine ⟨_, rfl, rfl, D, a, c, e, [], rfl, R.at_, fun q H3 s3 nq ht => ⟨_, rfl, rfl, D, a, c, e, [], rfl, s3 _ _ R.at_, _, _, rfl, ?_⟩⟩
      have R3 := R.same s3
      refine ⟨_, rfl, _, _, rfl, rfl, _, rfl, ?_⟩
      have rl := rangeI_le a c e
      refine ite2 (fun h3 => ?_) (fun h3 => ?_)
      · have h3' : rangeI a c e < 3 := of_decide_eq_true h3
        have de : dueN a c e = .inl (rangeI a c e) := if_pos h3'
        rw [de] at ht
        cases ht with
        | bad hq =>
          refine ⟨_, rfl, _, rfl, by show 2 ≤ sizeLine; decide, fun u nu => ⟨rfl, _, _, rfl, Lk.up (lk_tup (SqT.of ((Same.put nu) _ _ hq)) (SqT.of upd_same) (by show 2 ≤ 1000000; decide) ?_), fun H4 s4 => ?_⟩⟩
          · intro v hv
            simp only [List.mem_cons, List.mem_nil_iff, or_false] at hv
            rcases hv with rfl | rfl
            · exact .inr (.inr ⟨_, rfl⟩)
            · exact .inr (.inl ⟨_, rfl⟩)
          · have R4 := (R3.same (Same.put nu)).same s4
            exact k _ R4.kp (R4.bag.mono (by omega))
      · have h3' : ¬ rangeI a c e < 3 := fun z => h3 (decide_eq_true z)
        have de : dueN a c e = .inr (a, c, e) := if_neg h3'
        rw [de] at ht
        have GG : Good a c e := by
          unfold rangeI at h3'
          split at h3'
          · omega
          · split at h3'
            · omega
            · split at h3'
              · rename_i a1 c1 e1
                have ea : a = x := by rcases ha with h | h <;> omega
                have ec : c = y := by rcases hc with h | h <;> omega
                subst ea ec
                exact ⟨G.w0, G.w1, G.h0, G.h1, e1.1, e1.2⟩
              · omega
        cases ht with
        | @ring u _ _ _ hq htor =>
          refine ⟨_, rfl, q, _, _, _, rfl, rfl, SqT.of hq, atI_nat (j := 0) rfl, rfl, _, rfl, ?_⟩
          rw [decide_eq_true rfl]
          refine iteT ?_
          refine ⟨_, rfl, _, rfl, q, _, _, _, rfl, rfl, SqT.of hq, atI_nat (j := 1) rfl, _, rfl, D, _, _, _, rfl, rfl, SqL.of R3.at_, atI_nat (j := 0) rfl, _, rfl, D, _, _, _, rfl, rfl, SqL.of R3.at_, atI_nat (j := 1) rfl, _, rfl, D, _, _, _, rfl, rfl, SqL.of R3.at_, atI_nat (j := 2) rfl, by show 3 ≤ sizeLine; decide, fun v nv => ?_⟩
          have R4 := R3.same (Same.put (o := .tup [V.int a, V.int c, V.int e]) nv)
          refine ⟨rfl, b, u, v, _, a, c, e, rfl, R4.bag, by omega, htor.same (Same.put nv), SqT.of upd_same, GG, fun H5 k5 B5 => ?_⟩
          exact k _ (R4.kp.trans k5) (B5.mono (by omega))
end
end K40
/-! part YA40 -/
set_option Elab.async false
set_option linter.all false
set_option maxRecDepth 100000
set_option maxHeartbeats 4000000
namespace GX
open PySem PySem.Spec PyProof.Rows L2
theorem op_eqN {X : Cx} {k j n : Nat} {C : Addr} {sp : Sk} (hc : Cls X.K C) (c : MetN X.prog X.w X.K X.mg X.base k C "__eq__" n sp) (hr : Room j X.A) (hj : k ≤ j) : OpR X (compareOp .Eq) (rEqOwn X.K C sp) := by
  obtain ⟨f, h1, h2⟩ := c.ex
  exact op_eqOwn hc h1 h2 hr hj
end GX
namespace K40
open PySem L2 GX
theorem split_join {ws : List Str} (hne : ws ≠ []) (h : ∀ z ∈ ws, 32 ∉ z.cps.toList) : Txt.split (Str.join sep ws) sep = ws := by
  refine TL.map_tl_inj ?_
  have e : TL.tl sep = [32] := by decide +kernel
  rw [TL.split_spl _ _ (by rw [e]; exact List.cons_ne_nil _ _) (TL.kind_ok (by decide +kernel)), TL.tl_join, e]
  refine TL.spl_join (fun q => hne (List.map_eq_nil_iff.mp q)) fun p hp => ?_
  obtain ⟨z, hz, rfl⟩ := List.mem_map.mp hp
  exact h z hz
theorem app_assoc (x y z : Str) : (x ++ y) ++ z = x ++ (y ++ z) := TL.ext_tl (by rw [TL.tl_append, TL.tl_append, TL.tl_append, TL.tl_append, List.append_assoc])
def sT (a : Int) : Str := ((toString a : String) : Str)
theorem sT_ok {a : Int} (h0 : 0 ≤ a) (h1 : a ≤ 1000) : WordOk (sT a) ∧ numW (sT a) = true ∧ toI (sT a) = a := by
  have e := (strT h0 h1).1
  have z := nT_ok (n := a.toNat) (by omega)
  have ea : ((a.toNat : Nat) : Int) = a := Int.toNat_of_nonneg h0
  unfold sT
  rw [e]
  refine ⟨z.1, z.2.1, ?_⟩
  unfold toI
  rw [z.2.2, ea]
  rfl
theorem join2 (x y : Int) : (sT x ++ (" " : Str)) ++ sT y = Str.join sep [sT x, sT y] := rfl
theorem join3 (x y t : Int) : (((sT x ++ (" " : Str)) ++ sT y) ++ (" " : Str)) ++ sT t = Str.join sep [sT x, sT y, sT t] := by
  show _ = sT x ++ sep ++ (sT y ++ sep ++ sT t)
  show (((sT x ++ sep) ++ sT y) ++ sep) ++ sT t = sT x ++ sep ++ (sT y ++ sep ++ sT t)
  rw [app_assoc (sT x ++ sep) (sT y) sep, app_assoc (sT x ++ sep) (sT y ++ sep) (sT t)]
theorem numAll {ws : List Str} (h : ∀ z ∈ ws, numW z = true) : ∀ (j : Nat) (z : Str), ws[j]? = some z → numW z = true := fun j z hj => h z (List.mem_of_getElem? hj)
theorem good3 {x y t : Int} (G : Good x y t) : rangeI x y t = 3 := by
  have w0 := G.w0
  have h0 := G.h0
  unfold rangeI
  rw [if_neg (by omega), if_neg (by omega), if_pos ⟨G.t0, G.t1⟩]
theorem due3 {x y t : Int} (G : Good x y t) : due [sT x, sT y, sT t] = .inr (x, y, t) := by
  have hx := sT_ok (by have := G.w0; omega : 0 ≤ x) G.w1
  have hy := sT_ok (by have := G.h0; omega : 0 ≤ y) G.h1
  have ht := sT_ok G.t0 (by have := G.t1; have := G.w1; omega : t ≤ 1000)
  have hn : ∀ z ∈ [sT x, sT y, sT t], numW z = true := fun z hz => by
    simp only [List.mem_cons, List.mem_nil_iff, or_false] at hz
    rcases hz with rfl | rfl | rfl
    · exact hx.2.1
    · exact hy.2.1
    · exact ht.2.1
  have hl : ([sT x, sT y, sT t] : List Str).length = 3 := rfl
  rw [due_fit (by rw [hl]; omega) (bad_none (numAll hn)), num3_3 hl]
  show (if rangeI (toI (sT x)) (toI (sT y)) (toI (sT t)) < 3 then _ else _) = _
  rw [hx.2.2, hy.2.2, ht.2.2, good3 G, if_neg (by decide)]
  show Sum.inr (toI (sT x), toI (sT y), toI (sT t)) = _
  rw [hx.2.2, hy.2.2, ht.2.2]
theorem due2 {x y : Int} (G : Good x y 0) : due [sT x, sT y] = .inr (x, y, 0) := by
  have hx := sT_ok (by have := G.w0; omega : 0 ≤ x) G.w1
  have hy := sT_ok (by have := G.h0; omega : 0 ≤ y) G.h1
  have hn : ∀ z ∈ [sT x, sT y], numW z = true := fun z hz => by
    simp only [List.mem_cons, List.mem_nil_iff, or_false] at hz
    rcases hz with rfl | rfl
    · exact hx.2.1
    · exact hy.2.1
  have hl : ([sT x, sT y] : List Str).length = 2 := rfl
  rw [due_fit (by rw [hl]; omega) (bad_none (numAll hn)), num3_2 (by rw [hl]; decide)]
  show (if rangeI (toI (sT x)) (toI (sT y)) 0 < 3 then _ else _) = _
  rw [hx.2.2, hy.2.2, good3 G, if_neg (by decide)]
  show Sum.inr (toI (sT x), toI (sT y), (0 : Int)) = _
  rw [hx.2.2, hy.2.2]
def spK0 (C CB : Addr) : Sk := fun vs zs H Q E => ∃ a h t u : V, vs = [a] ∧ zs = [h, t, u] ∧ spInit C CB [a, u, h, t] H Q E
def spK2 (C CB : Addr) : Sk := fun vs zs H Q E => ∃ a u h t : V, vs = [a, u, h] ∧ zs = [t] ∧ spInit C CB [a, u, h, t] H Q E
def spN2 (C CB : Addr) : Sk := fun vs zs H Q E => ∃ a u h : V, vs = [a, u, h] ∧ zs = [] ∧ spInit C CB [a, u, h, .int 0] H Q E
section
variable {C CB : Addr} {H : Hp} {Q : VK} {E : XK} {x y t : Int}
theorem initR (hr : rangeI x y t = 3) (k : ∀ p H', Same H H' → H p = none → TorAt C H' p x y t → Q (.ref p) H') (p dx : Addr) (np : H p = none) (nd : H dx = none) (ne : dx ≠ p) :
    spInit C CB [.ref p, .int x, .int y, .int t] (upd (upd H dx (.own p)) p (.ins C dx [])) (fun v H2 => v = .non ∧ Q (.ref p) H2) E := by
  refine ⟨p, dx, x, y, t, rfl, upd_same, fun _ => ⟨rfl, ?_⟩, fun h3 => by rw [hr] at h3; exact absurd h3 (by decide)⟩
  refine k p _ (fun b o e => ?_) np ⟨dx, upd_same⟩
  rw [upd_ne (ne_of_none e np), upd_ne (ne_of_none e np), upd_ne (ne_of_none e nd)]
  exact e
theorem new3 (hr : rangeI x y t = 3) (k : ∀ p H', Same H H' → H p = none → TorAt C H' p x y t → Q (.ref p) H') :
    ∀ p dx, H p = none → H dx = none → dx ≠ p → sk (spInit C CB) (.ref p :: [.int x, .int y, .int t]) [] (upd (upd H dx (.own p)) p (.ins C dx [])) (fun v H2 => v = .non ∧ Q (.ref p) H2) E :=
  fun p dx np nd ne => ⟨rfl, initR hr k p dx np nd ne⟩
theorem newK0 (hr : rangeI x y t = 3) (k : ∀ p H', Same H H' → H p = none → TorAt C H' p x y t → Q (.ref p) H') :
    ∀ p dx, H p = none → H dx = none → dx ≠ p → spK0 C CB (.ref p :: []) [.int y, .int t, .int x] (upd (upd H dx (.own p)) p (.ins C dx [])) (fun v H2 => v = .non ∧ Q (.ref p) H2) E :=
  fun p dx np nd ne => ⟨_, _, _, _, rfl, rfl, initR hr k p dx np nd ne⟩
theorem newK2 (hr : rangeI x y t = 3) (k : ∀ p H', Same H H' → H p = none → TorAt C H' p x y t → Q (.ref p) H') :
    ∀ p dx, H p = none → H dx = none → dx ≠ p → spK2 C CB (.ref p :: [.int x, .int y]) [.int t] (upd (upd H dx (.own p)) p (.ins C dx [])) (fun v H2 => v = .non ∧ Q (.ref p) H2) E :=
  fun p dx np nd ne => ⟨_, _, _, _, rfl, rfl, initR hr k p dx np nd ne⟩
theorem newN2 (hr : rangeI x y 0 = 3) (k : ∀ p H', Same H H' → H p = none → TorAt C H' p x y 0 → Q (.ref p) H') :
    ∀ p dx, H p = none → H dx = none → dx ≠ p → spN2 C CB (.ref p :: [.int x, .int y]) [] (upd (upd H dx (.own p)) p (.ins C dx [])) (fun v H2 => v = .non ∧ Q (.ref p) H2) E :=
  fun p dx np nd ne => ⟨_, _, _, rfl, rfl, initR hr k p dx np nd ne⟩
theorem readR {ws : List Str} {z : Str} (hz : z = Str.join sep ws) (hne : ws ≠ []) (hl : z.length ≤ 1000) (hw : ∀ u ∈ ws, WordOk u) (hd : due ws = .inr (x, y, t)) (k : ∀ p H', Same H H' → H p = none → TorAt C H' p x y t → Q (.ref p) H') : sk (spRead C CB) [.str z] [] H Q E := by
  have e : Txt.split z sep = ws := by rw [hz]; exact split_join hne fun u hu => (hw u hu).nosp
  refine ⟨rfl, z, rfl, hl, by rw [e]; exact hw, fun a b c h p H' s n T => ?_, fun r h => ?_⟩
  · rw [e, hd] at h
    cases h
    exact k p H' s n T
  · rw [e, hd] at h
    cases h
end
end K40
/-! part ZA40 -/
set_option Elab.async false
set_option linter.all false
set_option maxRecDepth 100000
set_option maxHeartbeats 4000000
namespace K40
open PySem L2 GX
theorem eqB_self (x y t : Int) : eqB x y t x y t = true := by
  unfold eqB
  rw [decide_eq_true rfl, decide_eq_true rfl, decide_eq_true rfl]
  rfl
theorem madeAt {C : Addr} {H : Hp} {x y t : Int} {p dx : Addr} (np : H p = none) (nd : H dx = none) : Same H (upd (upd (upd H dx (.own p)) p (.ins C dx [])) p (.ins C dx (tf x y t))) ∧ TorAt C (upd (upd (upd H dx (.own p)) p (.ins C dx [])) p (.ins C dx (tf x y t))) p x y t := by
  refine ⟨fun b o e => ?_, ⟨dx, upd_same⟩⟩
  rw [upd_ne (ne_of_none e np), upd_ne (ne_of_none e np), upd_ne (ne_of_none e nd)]
  exact e
theorem repAll (n : Nat) : (List.replicate n true).all id = true := by
  rw [List.all_eq_true]
  intro b hb
  rw [List.eq_of_mem_replicate hb]
  rfl
theorem TorAt.upd {C : Addr} {H : Hp} {a D : Addr} {x y t : Int} {l : List V} {o : HO} (T : TorAt C H a x y t) (h : H D = some (.lst l)) : TorAt C (L2.upd H D o) a x y t := by
  obtain ⟨dx, e⟩ := T.ex
  exact ⟨dx, (upd_ne (ne_of e h (by intro z; cases z))).trans e⟩
/-- what stands once the tori are made: before the first draw -/
structure MS (K : PySem.W.Frag) (C : Addr) (H H' : Hp) (D p : Addr) (ps : List Addr) (x y t : Int) : Prop where
  sm : Same H H'
  nD : H D = none
  at_ : H' D = some (.lst (ps.map V.ref))
  pos : 0 < ps.length
  len : ps.length ≤ 6
  all : ∀ a ∈ ps, TorAt C H' a x y t
  ring : TorAt C H' p x y t
section
variable {P : Program} {w : World} {K : PySem.W.Frag} {mg : Str → Option Value} {base : Heap} {C CB cM fB DBOUNDS : Addr} {ca : Nat → Addr} {f : Addr} {fd : FuncData}
theorem ok_made (F : Fun K "_law_made_so" "_law_made_so" s_law_made_so f fd) (T : Txt K mg C CB) (g_law_of : CalN P w K mg base 2 "_law_of" 2 [] (sk (spOf K)))
    (g_law_like : CalN P w K mg base 3 "_law_like" 2 [] (sk (spLike K 3))) (g_law_ring_so : CalN P w K mg base 4 "_law_ring_so" 3 [] (sk (spRing K C))) (s_read : StaN P w K mg base 3 C "read" 1 (sk (spRead C CB))) (m_eq : MetN P w K mg base 1 C "__eq__" 2 (sk (spEq K C)))
    (p_text : PrpN P w K mg base 1 C "text" (sk (spText C))) (n_Torus_3 : NewN P w K mg base 1 "Torus" C 3 [] (sk (spInit C CB))) (n_Torus_2 : NewN P w K mg base 1 "Torus" C 2 [] (spN2 C CB)) (n_Torus_2_twist : NewN P w K mg base 1 "Torus" C 2 ["twist"] (spK2 C CB))
    (n_Torus_0_height_twist_width : NewN P w K mg base 1 "Torus" C 0 ["height", "twist", "width"] (spK0 C CB)) : FnOk P w K mg base CX0 5 f fd ["bag", "shape"] (spTrue K 60) := by
  refine F.ok sc_law_made_so (fun vs H Q E h => ?_) (fun cdv A outer st H vs Q E hr h => ?_)
  · obtain ⟨b, s, n, x, y, t, rfl, _⟩ := h
    rfl
  · obtain ⟨b, s, n, x, y, t, rfl, hB, hn, hS, G, k⟩ := h
    have nd := sc_law_made_so.nd
    have w0 := G.w0
    have h0 := G.h0
    have w1 := G.w1
    have h1 := G.h1
    have t0 := G.t0
    have t1 := G.t1
    have hG3 := good3 G
    have lx := strT (by omega : 0 ≤ x) w1
    have ly := strT (by omega : 0 ≤ y) h1
    have lt := strT t0 (by omega : t ≤ 1000)
    have okx := (sT_ok (by omega : 0 ≤ x) w1).1
    have oky := (sT_ok (by omega : 0 ≤ y) h1).1
    have okt := (sT_ok t0 (by omega : t ≤ 1000)).1
    refine ⟨_, (pss_cons (ps_set (i := 2) nd rfl (Or.inr rfl) (pn_new n_Torus_3 hr (by decide) takes0N rfl (pa_cons (pe_ix ix_tup (pv 1) pe_int (fun _ _ => rfl)) (pa_cons (pe_ix ix_tup (pv 1) pe_int (fun _ _ => rfl)) (pa_cons (pe_ix ix_tup (pv 1) pe_int (fun _ _ => rfl)) pa_nil)))))
    (pss_cons (ps_set (i := 3) nd rfl (Or.inl rfl) (pe_lst (pa_cons (pv 2) (pa_cons (pn_newK0 n_Torus_0_height_twist_width hr (by decide) takes0N rfl (pk_cons (pe_ix ix_tup (pv 1) pe_int (fun _ _ => rfl)) (pk_cons (pe_ix ix_tup (pv 1) pe_int (fun _ _ => rfl)) (pk_cons (pe_ix ix_tup (pv 1) pe_int (fun _ _ => rfl)) pk_nil)))) (pa_cons (pn_newK n_Torus_2_twist hr (by decide) takes0N rfl (pa_cons (pe_ix ix_tup (pv 1) pe_int (fun _ _ => rfl)) (pa_cons (pe_ix ix_tup (pv 1) pe_int (fun _ _ => rfl)) pa_nil)) (pk_cons (pe_ix ix_tup (pv 1) pe_int (fun _ _ => rfl)) pk_nil)) pa_nil)))))
    (pss_cons (ps_if (pt_cmpR op_eq (pe_ix ix_tup (pv 1) pe_int (fun _ _ => rfl)) pe_int (nomark _))
      (pss_one (ps_set (i := 3) nd rfl (Or.inl rfl) (pe_op op_cat (pv 3) (pe_lst (pa_cons (pn_new n_Torus_2 hr (by decide) takes0N rfl (pa_cons (pe_ix ix_tup (pv 1) pe_int (fun _ _ => rfl)) (pa_cons (pe_ix ix_tup (pv 1) pe_int (fun _ _ => rfl)) pa_nil))) (pa_cons (pn_st s_read hr (by decide) takes0N (pe_glob (v := V.ref _) rfl T.g_Torus rfl) (pa_cons (pe_op op_add_str (pe_op op_add_str (pe_callTy call_str_int rfl T.m_str (by decide +kernel) (pa_cons (pe_ix ix_tup (pv 1) pe_int (fun _ _ => rfl)) pa_nil)) pe_str) (pe_callTy call_str_int rfl T.m_str (by decide +kernel) (pa_cons (pe_ix ix_tup (pv 1) pe_int (fun _ _ => rfl)) pa_nil))) pa_nil)) pa_nil))))))
      pss_nil)
    (pss_cons (ps_expr (pe_bm PySem.F.plainAttrs_list PySem.F.slot_list_append PySem.F.type_list_append mt_append (pv 3) (pa_cons (pn_st s_read hr (by decide) takes0N (pe_glob (v := V.ref _) rfl T.g_Torus rfl) (pa_cons (pe_op op_add_str (pe_op op_add_str (pe_op op_add_str (pe_op op_add_str (pe_callTy call_str_int rfl T.m_str (by decide +kernel) (pa_cons (pe_ix ix_tup (pv 1) pe_int (fun _ _ => rfl)) pa_nil)) pe_str) (pe_callTy call_str_int rfl T.m_str (by decide +kernel) (pa_cons (pe_ix ix_tup (pv 1) pe_int (fun _ _ => rfl)) pa_nil))) pe_str) (pe_callTy call_str_int rfl T.m_str (by decide +kernel) (pa_cons (pe_ix ix_tup (pv 1) pe_int (fun _ _ => rfl)) pa_nil))) pa_nil)) pa_nil)))
    (pss_cons (ps_set (i := 4) nd rfl (Or.inr rfl) (pn_f g_law_of hr (by decide) takes0N rfl (pa_cons (pv 0) (pa_cons (pv 3) pa_nil))))
    (pss_cons (ps_if (PW.pt (pw_or (pt_not (pt_val (pn_f g_law_ring_so hr (by decide) takes0N rfl (pa_cons (pv 0) (pa_cons (pv 4) (pa_cons (pv 1) pa_nil)))))) (pw_or1 (pt_not (pt_val (pe_callB (cr_all rfl) rfl T.m_all (by decide +kernel) (pa_cons (pe_lc (own := [("x", 6)]) (g := gName 6) (tt := tYes) rfl nd (pi_list (pv 3)) (blkOk_by (own := [("x", 6)]) (N := ["bag", "shape", "ring", "some", "mine", "unlike", "x"]) (sc := defScope s_law_made_so) (by decide +kernel)) (fun _ _ _ _ _ => (pg_name (i := 6) nd rfl (Or.inl rfl))) (fun _ _ _ _ _ => pts_nil) (fun _ _ _ _ _ => (pn_f g_law_like hr (by decide) takes0N rfl (pa_cons (pe_cmpR (r := rEqOwn K C (sk (spEq K C))) (op_eqN T.cl m_eq hr (by decide)) (pv 2) (pv 6) (nomark _)) (pa_cons pe_bl pa_nil))))) pa_nil)))))))
      (pss_one (ps_ret pe_bl))
      pss_nil)
    (pss_cons (ps_set (i := 5) nd rfl (Or.inl rfl) (pe_lst (pa_cons (pe_tup (pa_cons (pe_op op_add (pe_ix ix_tup (pv 1) pe_int (fun _ _ => rfl)) pe_int) (pa_cons (pe_ix ix_tup (pv 1) pe_int (fun _ _ => rfl)) (pa_cons (pe_ix ix_tup (pv 1) pe_int (fun _ _ => rfl)) pa_nil)))) (pa_cons (pe_tup (pa_cons (pe_ix ix_tup (pv 1) pe_int (fun _ _ => rfl)) (pa_cons (pe_op op_add (pe_ix ix_tup (pv 1) pe_int (fun _ _ => rfl)) pe_int) (pa_cons (pe_ix ix_tup (pv 1) pe_int (fun _ _ => rfl)) pa_nil)))) (pa_cons (pe_tup (pa_cons (pe_ix ix_tup (pv 1) pe_int (fun _ _ => rfl)) (pa_cons (pe_ix ix_tup (pv 1) pe_int (fun _ _ => rfl)) (pa_cons (pe_op op_mod (pe_callTy call_int1 rfl T.m_int (by decide +kernel) (pa_cons (pe_op op_add (pe_ix ix_tup (pv 1) pe_int (fun _ _ => rfl)) pe_int) pa_nil)) (pe_ix ix_tup (pv 1) pe_int (fun _ _ => rfl))) pa_nil)))) pa_nil)))))
    (pss_cons (ps_if (PW.pt (pw_and (pt_cmpR op_gt (pe_ix ix_tup (pv 1) pe_int (fun _ _ => rfl)) pe_int (nomark _)) (pw_and1 (pt_not (pt_val (pn_f g_law_like hr (by decide) takes0N rfl (pa_cons (pe_cmpR (r := rEqOwn K C (sk (spEq K C))) (op_eqN T.cl m_eq hr (by decide)) (pv 4) (pn_new n_Torus_3 hr (by decide) takes0N rfl (pa_cons (pe_ix ix_tup (pe_ix ix_list (pv 5) pe_int (fun _ _ => rfl)) pe_int (fun _ _ => rfl)) (pa_cons (pe_ix ix_tup (pe_ix ix_list (pv 5) pe_int (fun _ _ => rfl)) pe_int (fun _ _ => rfl)) (pa_cons (pe_ix ix_tup (pe_ix ix_list (pv 5) pe_int (fun _ _ => rfl)) pe_int (fun _ _ => rfl)) pa_nil)))) (nomark _)) (pa_cons pe_bl pa_nil))))))))
      (pss_one (ps_ret pe_bl))
      pss_nil)
    (pss_cons (ps_if (PW.pt (pw_and (pt_cmpR op_lt (pe_callB (cr_maxT rfl) rfl T.m_max (by decide +kernel) (pa_cons (pv 1) pa_nil)) pe_int (nomark _)) (pw_and1 (pt_not (pt_val (pe_callB (cr_all rfl) rfl T.m_all (by decide +kernel) (pa_cons (pe_lc (own := [("x", 6)]) (g := gName 6) (tt := tYes) rfl nd (pi_list (pe_slice sl_list (pv 5) po_none (po_some pe_int))) (blkOk_by (own := [("x", 6)]) (N := ["bag", "shape", "ring", "some", "mine", "unlike", "x"]) (sc := defScope s_law_made_so) (by decide +kernel)) (fun _ _ _ _ _ => (pg_name (i := 6) nd rfl (Or.inl rfl))) (fun _ _ _ _ _ => pts_nil) (fun _ _ _ _ _ => (pn_f g_law_like hr (by decide) takes0N rfl (pa_cons (pe_cmpR (r := rEqOwn K C (sk (spEq K C))) (op_eqN T.cl m_eq hr (by decide)) (pv 4) (pn_new n_Torus_3 hr (by decide) takes0N rfl (pa_cons (pe_ix (r := rIxT K) ix_tup (pv 6) pe_int (fun _ _ => rfl)) (pa_cons (pe_ix (r := rIxT K) ix_tup (pv 6) pe_int (fun _ _ => rfl)) (pa_cons (pe_ix (r := rIxT K) ix_tup (pv 6) pe_int (fun _ _ => rfl)) pa_nil)))) (nomark _)) (pa_cons pe_bl pa_nil))))) pa_nil)))))))
      (pss_one (ps_ret pe_bl))
      pss_nil)
    (pss_one (ps_ret (pe_and (pn_f g_law_like hr (by decide) takes0N rfl (pa_cons (pe_cmpR (r := rEqOwn K C (sk (spEq K C))) (op_eqN T.cl m_eq hr (by decide)) (pv 4) (pv 1) (nomark _)) (pa_cons pe_bl pa_nil))) (pe_one (pn_f g_law_like hr (by decide) takes0N rfl (pa_cons (pe_cmpR (r := rEqOwn K C (sk (spEq K C))) (op_eqN T.cl m_eq hr (by decide)) (pv 4) (pn_p T.cl p_text hr (by decide) (pv 2)) (nomark _)) (pa_cons pe_bl pa_nil)))))))))))))))), ?_⟩
    refine ⟨_, rfl, s, _, _, _, rfl, rfl, hS, sh0 x y t, _, rfl, s, _, _, _, rfl, rfl, hS, sh1 x y t, _, rfl, s, _, _, _, rfl, rfl, hS, sh2 x y t, ?_⟩
    intro p dx np nd0 ne0
    refine ⟨rfl, p, dx, x, y, t, rfl, upd_same, fun _ => ⟨rfl, ?_⟩, fun h3 => absurd h3 (by rw [hG3]; decide)⟩
    obtain ⟨s1, ht⟩ := madeAt (C := C) (x := x) (y := y) (t := t) np nd0
    generalize (upd (upd (upd H dx (.own p)) p (.ins C dx [])) p (.ins C dx (tf x y t))) = H1 at s1 ht ⊢
    clear np nd0 ne0
    have hS1 := GX.Same.sqT s1 hS
    refine ⟨_, rfl, _, rfl, s, _, _, _, rfl, rfl, hS1, sh1 x y t, _, rfl, s, _, _, _, rfl, rfl, hS1, sh2 x y t, _, rfl, s, _, _, _, rfl, rfl, hS1, sh0 x y t, ?_⟩
    intro p2 dx np nd0 ne0
    refine ⟨_, _, _, _, rfl, rfl, p2, dx, x, y, t, rfl, upd_same, fun _ => ⟨rfl, ?_⟩, fun h3 => absurd h3 (by rw [hG3]; decide)⟩
    obtain ⟨s2, ht2⟩ := madeAt (C := C) (x := x) (y := y) (t := t) np nd0
    generalize (upd (upd (upd H1 dx (.own p2)) p2 (.ins C dx [])) p2 (.ins C dx (tf x y t))) = H2 at s2 ht2 ⊢
    clear np nd0 ne0
    have hS2 := GX.Same.sqT s2 hS1
    refine ⟨_, rfl, s, _, _, _, rfl, rfl, hS2, sh0 x y t, _, rfl, s, _, _, _, rfl, rfl, hS2, sh1 x y t, _, rfl, s, _, _, _, rfl, rfl, hS2, sh2 x y t, ?_⟩
    intro p3 dx np nd0 ne0
    refine ⟨_, _, _, _, rfl, rfl, p3, dx, x, y, t, rfl, upd_same, fun _ => ⟨rfl, ?_⟩, fun h3 => absurd h3 (by rw [hG3]; decide)⟩
    obtain ⟨s3, ht3⟩ := madeAt (C := C) (x := x) (y := y) (t := t) np nd0
    generalize (upd (upd (upd H2 dx (.own p3)) p3 (.ins C dx [])) p3 (.ins C dx (tf x y t))) = H3 at s3 ht3 ⊢
    clear np nd0 ne0
    refine ⟨by show 3 ≤ sizeLine; decide, fun D nD => ?_⟩
    refine gnm ?_
    with_reducible conv => whnf
    have s123 := s1.trans (s2.trans s3)
    have sD : Same H3 (upd H3 D (.lst [V.ref p, V.ref p2, V.ref p3])) := Same.put nD
    have M0 : MS K C H (upd H3 D (.lst [V.ref p, V.ref p2, V.ref p3])) D p [p, p2, p3] x y t := by
      have a1 := ((ht.same s2).same s3).same sD
      have a2 := (ht2.same s3).same sD
      have a3 := ht3.same sD
      refine ⟨s123.trans sD, s123.free nD, upd_same, Nat.zero_lt_succ _, (by show 3 ≤ 6; decide), fun a ha => ?_, a1⟩
      simp only [List.mem_cons, List.mem_nil_iff, or_false] at ha
      rcases ha with rfl | rfl | rfl
      · exact a1
      · exact a2
      · exact a3
    refine seq_cut (fun σ H' => ∃ D ps, σ = [some (.ref b), some (.ref s), some (.ref p), some (.ref D), none, none, none] ∧ ps.length ≤ 5 ∧ MS K C H H' D p ps x y t) ?_ fun tail1 => ?_
    · rintro σ H4 ⟨D, ps, rfl, hpl, M⟩
      have hS4 := GX.Same.sqT M.sm hS
      refine ⟨_, rfl, .inl ⟨rfl, _, SqL.of M.at_⟩, rfl, _, rfl, s, _, _, _, rfl, rfl, hS4, sh0 x y t, _, rfl, lx.2.2, _, _, rfl, rfl, ?_, ?_⟩
      · exact big (by rw [sp1]; omega)
      refine ⟨_, rfl, s, _, _, _, rfl, rfl, hS4, sh1 x y t, _, rfl, ly.2.2, _, _, rfl, rfl, ?_, _, _, rfl, rfl, ?_, ?_⟩
      · exact big (by rw [len_app, sp1]; omega)
      · exact big (by rw [len_app, len_app, sp1]; omega)
      refine ⟨_, rfl, s, _, _, _, rfl, rfl, hS4, sh2 x y t, _, rfl, lt.2.2, _, _, rfl, rfl, ?_, ?_⟩
      · exact big (by rw [len_app, len_app, len_app, sp1]; omega)
      refine readR (ws := [sT x, sT y, sT t]) (join3 x y t) (List.cons_ne_nil _ _) (by rw [len_app, len_app, len_app, len_app, sp1]; omega) (fun u hu => ?_) (due3 G) fun p6 H7 s7 np6 ht6 => ?_
      · simp only [List.mem_cons, List.mem_nil_iff, or_false] at hu
        rcases hu with rfl | rfl | rfl
        · exact okx
        · exact oky
        · exact okt
      have hD7 := s7 _ _ M.at_
      refine ⟨D, _, _, rfl, rfl, hD7, Nat.lt_of_lt_of_le (by rw [List.length_map]; omega : _ < 1000) (by decide), ?_⟩
      have M2 : MS K C H (upd H7 D (.lst (ps.map V.ref ++ [V.ref p6]))) D p (ps ++ [p6]) x y t := by
        refine ⟨Same.keepD (M.sm.trans s7) M.nD, M.nD, by rw [upd_same, List.map_append]; rfl, by simp, by rw [List.length_append]; show ps.length + 1 ≤ 6; omega, fun a ha => ?_, (M.ring.same s7).upd hD7⟩
        rw [List.mem_append] at ha
        rcases ha with ha | ha
        · exact ((M.all a ha).same s7).upd hD7
        · rw [List.mem_singleton] at ha
          subst ha
          exact ht6.upd hD7
      generalize (upd H7 D (.lst (ps.map V.ref ++ [V.ref p6]))) = H8 at M2 ⊢
      generalize ps ++ [p6] = qs at M2
      have B8 := hB.same M2.sm
      have hS8 := GX.Same.sqT M2.sm hS
      have hDb : D ≠ b := (hB.ne M.nD).symm
      have hql := M2.len
      refine ⟨_, rfl, _, rfl, rfl, b, D, n, _, rfl, B8, by omega, M2.at_, hDb, by rw [List.length_map]; exact M2.pos, by rw [List.length_map]; omega, fun xv H9 hx k9 B9 _ => ?_⟩
      obtain ⟨m, hm, rfl⟩ := List.mem_map.mp hx
      have all9 : ∀ a ∈ qs, TorAt C H9 a x y t := fun a ha => (M2.all a ha).kp B8 k9
      have ring9 := M2.ring.kp B8 k9
      have hS9 := B8.sqT k9 hS8
      have hD9 := k9 _ _ M2.at_ hDb
      have kp9 : Kp b H H9 := (Same.kp M2.sm).trans k9
      refine ⟨_, rfl, _, rfl, _, rfl, rfl, b, m, s, n + 1, x, y, t, rfl, B9, by omega, all9 m hm, hS9, G, fun H10 k10 B10 => ⟨_, rfl, ?_⟩⟩
      refine iteF ?_
      have all10 : ∀ a ∈ qs, TorAt C H10 a x y t := fun a ha => (all9 a ha).kp B9 k10
      have ring10 := ring9.kp B9 k10
      have hS10 := B9.sqT k10 hS9
      have hD10 := k10 _ _ hD9 hDb
      have kp10 := kp9.trans k10
      refine ⟨_, rfl, D, rfl, ⟨_, SqL.of hD10⟩, fun E nE => ?_⟩
      refine lc_list (K := K) (a := D) (xs := qs.map V.ref) (fun i H' => Same H10 H' ∧ H' E = some (.lst ((List.replicate i true).map V.bl))) ⟨Same.put nE, upd_same⟩ (fun i H' _ ⟨s1, _⟩ => SqL.of (s1 _ _ hD10)) ?_ ?_
      · rintro i v H' hv ⟨s1, hE⟩
        obtain ⟨a, ha, rfl⟩ := List.mem_map.mp (List.mem_of_getElem? hv)
        have hi := (List.getElem?_eq_some_iff.mp hv).1
        rw [List.length_map] at hi
        refine ⟨rfl, tyes (iteT ?_)⟩
        obtain ⟨dx, hp⟩ := (ring10.same s1).ex
        obtain ⟨dy, ha'⟩ := ((all10 a ha).same s1).ex
        refine ⟨_, rfl, _, rfl, p, dx, _, _, rfl, hp, T.ownTy ha', T.nfT, rfl, p, _, x, y, t, rfl, ring10.same s1, .inl ⟨a, x, y, t, rfl, (all10 a ha).same s1, _, rfl, ?_⟩⟩
        refine ⟨rfl, _, _, rfl, .inl ⟨congrArg V.bl (eqB_self x y t), .inl ⟨_, rfl⟩⟩, fun H'' s2 => ⟨_, s2 _ _ hE, ?_, Same.keepD (s1.trans s2) nE, ?_⟩⟩
        · rw [List.length_map, List.length_replicate]
          exact Nat.lt_of_lt_of_le (by omega : i < 1000) (by decide)
        · rw [upd_same]
          have e : List.replicate (i + 1) true = List.replicate i true ++ [true] := List.replicate_succ'
          rw [e, List.map_append]
          rfl
      rintro H11 ⟨s11, hE⟩
      rw [List.length_map] at hE
      refine ⟨E, _, rfl, SqL.of hE, ?_⟩
      rw [repAll]
      refine ⟨_, rfl, ?_⟩
      refine iteF ?_
      have mine11 := (all10 m hm).same s11
      have ring11 := ring10.same s11
      have hS11 := GX.Same.sqT s11 hS10
      have B11 := B10.same s11
      have kp11 := kp10.trans (Same.kp s11)
      clear hE nE E s11 all10 all9 ring10 ring9 hS10 hS9 hD10 hD9 kp10 kp9
      -- the unlike ones
      refine ⟨_, rfl, s, _, _, _, rfl, rfl, hS11, sh0 x y t, _, _, rfl, rfl, _, rfl, s, _, _, _, rfl, rfl, hS11, sh1 x y t, _, rfl, s, _, _, _, rfl, rfl, hS11, sh2 x y t, by show 3 ≤ sizeLine; decide, fun u1 nu1 => ?_⟩
      have c1 : Same H11 (upd H11 u1 (.tup [V.int (x + 1), V.int y, V.int t])) := Same.put nu1
      have hS12 := GX.Same.sqT c1 hS11
      refine ⟨_, rfl, s, _, _, _, rfl, rfl, hS12, sh0 x y t, _, rfl, s, _, _, _, rfl, rfl, hS12, sh1 x y t, _, _, rfl, rfl, _, rfl, s, _, _, _, rfl, rfl, hS12, sh2 x y t, by show 3 ≤ sizeLine; decide, fun u2 nu2 => ?_⟩
      have c2 : Same (upd H11 u1 (.tup [V.int (x + 1), V.int y, V.int t])) (upd (upd H11 u1 (.tup [V.int (x + 1), V.int y, V.int t])) u2 (.tup [V.int x, V.int (y + 1), V.int t])) := Same.put nu2
      have hS13 := GX.Same.sqT c2 hS12
      refine ⟨_, rfl, s, _, _, _, rfl, rfl, hS13, sh0 x y t, _, rfl, s, _, _, _, rfl, rfl, hS13, sh1 x y t, _, rfl, s, _, _, _, rfl, rfl, hS13, sh2 x y t, _, _, rfl, rfl, .inl ⟨_, rfl, _, rfl, s, _, _, _, rfl, rfl, hS13, sh0 x y t, _, _, rfl, rfl, w0, by show 3 ≤ sizeLine; decide, fun u3 nu3 => ⟨by show 3 ≤ sizeLine; decide, fun U nU => ?_⟩⟩⟩
      have c3 : Same (upd (upd H11 u1 (.tup [V.int (x + 1), V.int y, V.int t])) u2 (.tup [V.int x, V.int (y + 1), V.int t])) (upd (upd (upd H11 u1 (.tup [V.int (x + 1), V.int y, V.int t])) u2 (.tup [V.int x, V.int (y + 1), V.int t])) u3 (.tup [V.int x, V.int y, V.int ((t + 1) % x)])) := Same.put nu3
      have c4 : Same (upd (upd (upd H11 u1 (.tup [V.int (x + 1), V.int y, V.int t])) u2 (.tup [V.int x, V.int (y + 1), V.int t])) u3 (.tup [V.int x, V.int y, V.int ((t + 1) % x)])) (upd (upd (upd (upd H11 u1 (.tup [V.int (x + 1), V.int y, V.int t])) u2 (.tup [V.int x, V.int (y + 1), V.int t])) u3 (.tup [V.int x, V.int y, V.int ((t + 1) % x)])) U (.lst [V.ref u1, V.ref u2, V.ref u3])) := Same.put nU
      refine gnm ?_
      with_reducible conv => whnf
      have g1 := c4 _ _ (c3 _ _ (c2 _ _ (upd_same (H := H11) (a := u1) (o := .tup [V.int (x + 1), V.int y, V.int t]))))
      have g2 := c4 _ _ (c3 _ _ (upd_same (H := (upd H11 u1 (.tup [V.int (x + 1), V.int y, V.int t]))) (a := u2) (o := .tup [V.int x, V.int (y + 1), V.int t])))
      have g3 := c4 _ _ (upd_same (H := (upd (upd H11 u1 (.tup [V.int (x + 1), V.int y, V.int t])) u2 (.tup [V.int x, V.int (y + 1), V.int t]))) (a := u3) (o := .tup [V.int x, V.int y, V.int ((t + 1) % x)]))
      have gU : (upd (upd (upd (upd H11 u1 (.tup [V.int (x + 1), V.int y, V.int t])) u2 (.tup [V.int x, V.int (y + 1), V.int t])) u3 (.tup [V.int x, V.int y, V.int ((t + 1) % x)])) U (.lst [V.ref u1, V.ref u2, V.ref u3])) U = some (.lst [V.ref u1, V.ref u2, V.ref u3]) := upd_same
      have s15 := c1.trans (c2.trans (c3.trans c4))
      generalize (upd (upd (upd (upd H11 u1 (.tup [V.int (x + 1), V.int y, V.int t])) u2 (.tup [V.int x, V.int (y + 1), V.int t])) u3 (.tup [V.int x, V.int y, V.int ((t + 1) % x)])) U (.lst [V.ref u1, V.ref u2, V.ref u3])) = H15 at g1 g2 g3 gU s15 ⊢
      have mine15 := mine11.same s15
      have ring15 := ring11.same s15
      have hS15 := GX.Same.sqT s15 hS11
      have B15 := B11.same s15
      have kp15 := kp11.trans (Same.kp s15)
      have et := emod_lt (t + 1) w0
      have hr3 : rangeI x y ((t + 1) % x) = 3 := by
        unfold rangeI
        rw [if_neg (by omega), if_neg (by omega), if_pos et]
      refine seq_cut (fun σ H' => σ = [some (.ref b), some (.ref s), some (.ref p), some (.ref D), some (.ref m), some (.ref U), none] ∧ Same H15 H') ?_ fun tail2 => ?_
      · rintro σ H16 ⟨rfl, s16⟩
        have mine16 := mine15.same s16
        have ring16 := ring15.same s16
        have hS16 := GX.Same.sqT s16 hS15
        refine seq_cut (fun σ H' => σ = [some (.ref b), some (.ref s), some (.ref p), some (.ref D), some (.ref m), some (.ref U), none] ∧ Same H16 H') ?_ fun tail3 => ?_
        · rintro σ H17 ⟨rfl, s17⟩
          have mine17 := mine16.same s17
          have ring17 := ring16.same s17
          have hS17 := GX.Same.sqT s17 hS16
          obtain ⟨dm, hm17⟩ := mine17.ex
          refine ⟨_, rfl, _, rfl, m, dm, _, _, rfl, hm17, tyT hS17, T.nfTup, rfl, m, _, x, y, t, rfl, mine17, .inr ⟨⟨_, tyT hS17, T.eqTup⟩, _, rfl, ?_⟩⟩
          refine ⟨rfl, _, _, rfl, lk_flat (.inl ⟨_, rfl⟩), fun H18 s18 => ⟨_, rfl, ?_⟩⟩
          refine iteT ?_
          have mine18 := mine17.same s18
          have ring18 := ring17.same s18
          obtain ⟨dm, hm18⟩ := mine18.ex
          obtain ⟨dx, hp18⟩ := ring18.ex
          refine ⟨_, rfl, _, rfl, p, dx, _, rfl, hp18, rfl, p, x, y, t, rfl, ring18, G, m, dm, _, .type "str", rfl, hm18, .base (.str _), T.nfStr, rfl, m, _, x, y, t, rfl, mine18, .inr ⟨⟨_, .base (.str _), T.eqStr⟩, _, rfl, ?_⟩⟩
          refine ⟨rfl, _, _, rfl, lk_flat (.inl ⟨_, rfl⟩), fun H19 s19 => ?_⟩
          have sl := s16.trans (s17.trans (s18.trans s19))
          exact k _ (kp15.trans (Same.kp sl)) ((B15.same sl).mono (by omega))
        · refine ⟨_, rfl, s, [x, y, t], rfl, hS16, Nat.zero_lt_succ _, fun mx hmx hle => ⟨_, _, rfl, rfl, _, rfl, ?_⟩⟩
          refine ite2 (fun hmax => ?_) (fun hmax => ?_)
          · have gU6 := s16 _ _ gU
            refine ⟨_, rfl, _, rfl, U, _, rfl, SqL.of gU6, fun W nW => ⟨W, rfl, ⟨_, SqL.of upd_same⟩, fun E nE => ?_⟩⟩
            have sW : Same H16 (upd H16 W (.lst (cutV [V.ref u1, V.ref u2, V.ref u3] none (some 2)))) := Same.put nW
            have hW : (upd H16 W (.lst (cutV [V.ref u1, V.ref u2, V.ref u3] none (some 2)))) W = some (.lst [V.ref u1, V.ref u2]) := upd_same
            generalize (upd H16 W (.lst (cutV [V.ref u1, V.ref u2, V.ref u3] none (some 2)))) = H17 at sW hW nE ⊢
            refine lc_list (K := K) (a := W) (xs := [V.ref u1, V.ref u2]) (fun i H' => Same H17 H' ∧ H' E = some (.lst ((List.replicate i true).map V.bl))) ⟨Same.put nE, upd_same⟩ (fun i H' _ ⟨s1, _⟩ => SqL.of (s1 _ _ hW)) ?_ ?_
            · rintro i v H' hv ⟨s1, hE⟩
              have hi : i < 2 := (List.getElem?_eq_some_iff.mp hv).1
              have sS := s16.trans (sW.trans s1)
              obtain ⟨u, a, c, e, rfl, hu, hru, hne⟩ : ∃ (u : Addr) (a c e : Int), v = .ref u ∧ H' u = some (.tup [.int a, .int c, .int e]) ∧ rangeI a c e = 3 ∧ eqB x y t a c e = false := by
                have hv2 := List.mem_of_getElem? hv
                simp only [List.mem_cons, List.mem_nil_iff, or_false] at hv2
                rcases hv2 with rfl | rfl
                · refine ⟨u1, x + 1, y, t, rfl, sS _ _ g1, ?_, ?_⟩
                  · unfold rangeI
                    rw [if_neg (by omega), if_neg (by omega), if_pos ⟨t0, by omega⟩]
                  · unfold eqB
                    rw [decide_eq_false (by omega : ¬ x = x + 1)]
                    rfl
                · refine ⟨u2, x, y + 1, t, rfl, sS _ _ g2, ?_, ?_⟩
                  · unfold rangeI
                    rw [if_neg (by omega), if_neg (by omega), if_pos ⟨t0, by omega⟩]
                  · unfold eqB
                    rw [decide_eq_true rfl, decide_eq_false (by omega : ¬ y = y + 1)]
                    rfl
              refine ⟨rfl, tyes (iteT ?_)⟩
              refine ⟨_, rfl, _, rfl, u, _, _, _, rfl, rfl, SqT.of hu, atI_nat (j := 0) rfl, _, rfl, u, _, _, _, rfl, rfl, SqT.of hu, atI_nat (j := 1) rfl, _, rfl, u, _, _, _, rfl, rfl, SqT.of hu, atI_nat (j := 2) rfl, ?_⟩
              intro q dx np nd0 ne0
              refine ⟨rfl, q, dx, a, c, e, rfl, upd_same, fun _ => ⟨rfl, ?_⟩, fun h3 => absurd h3 (by rw [hru]; decide)⟩
              obtain ⟨sq, hq⟩ := madeAt (C := C) (x := a) (y := c) (t := e) np nd0
              generalize (upd (upd (upd H' dx (.own q)) q (.ins C dx [])) q (.ins C dx (tf (a) (c) (e)))) = H'' at sq hq ⊢
              clear np nd0 ne0
              have mineq := mine15.same (sS.trans sq)
              obtain ⟨dm, hmq⟩ := mineq.ex
              obtain ⟨dq, hqq⟩ := hq.ex
              refine ⟨m, dm, _, _, rfl, hmq, T.ownTy hqq, T.nfT, rfl, m, _, x, y, t, rfl, mineq, .inl ⟨q, a, c, e, rfl, hq, _, rfl, ?_⟩⟩
              refine ⟨rfl, _, _, rfl, .inl ⟨congrArg V.bl hne, .inl ⟨_, rfl⟩⟩, fun H3 s3 => ⟨_, s3 _ _ (sq _ _ hE), ?_, Same.keepD (s1.trans (sq.trans s3)) nE, ?_⟩⟩
              · rw [List.length_map, List.length_replicate]
                exact Nat.lt_of_lt_of_le (by omega : i < 1000) (by decide)
              · rw [upd_same]
                have e : List.replicate (i + 1) true = List.replicate i true ++ [true] := List.replicate_succ'
                rw [e, List.map_append]
                rfl
            · rintro H18 ⟨s18, hE⟩
              refine ⟨E, _, rfl, SqL.of hE, ?_⟩
              rw [repAll]
              refine ⟨_, rfl, ?_⟩
              refine iteF ?_
              refine nxt ?_
              with_reducible conv => whnf
              refine tail3 _ _ ?_
              exact ⟨rfl, sW.trans s18⟩
          · refine iteF ?_
            refine nxt ?_
            with_reducible conv => whnf
            refine tail3 _ _ ?_
            exact ⟨rfl, Same.refl _⟩
      · refine ⟨_, rfl, s, _, _, _, rfl, rfl, hS15, sh0 x y t, _, _, rfl, rfl, _, rfl, ?_⟩
        refine ite2 (fun hx1 => ?_) (fun hx1 => ?_)
        · have hx1' : 1 < x := of_decide_eq_true hx1
          refine ⟨_, rfl, _, rfl, U, _, _, _, rfl, rfl, SqL.of gU, atI_nat (j := 2) rfl, u3, _, _, _, rfl, rfl, SqT.of g3, atI_nat (j := 0) rfl, _, rfl, U, _, _, _, rfl, rfl, SqL.of gU, atI_nat (j := 2) rfl, u3, _, _, _, rfl, rfl, SqT.of g3, atI_nat (j := 1) rfl, _, rfl, U, _, _, _, rfl, rfl, SqL.of gU, atI_nat (j := 2) rfl, u3, _, _, _, rfl, rfl, SqT.of g3, atI_nat (j := 2) rfl, ?_⟩
          intro q dx np nd0 ne0
          refine ⟨rfl, q, dx, x, y, (t + 1) % x, rfl, upd_same, fun _ => ⟨rfl, ?_⟩, fun h3 => absurd h3 (by rw [hr3]; decide)⟩
          obtain ⟨sq, hq⟩ := madeAt (C := C) (x := x) (y := y) (t := (t + 1) % x) np nd0
          generalize (upd (upd (upd H15 dx (.own q)) q (.ins C dx [])) q (.ins C dx (tf (x) (y) ((t + 1) % x)))) = H16 at sq hq ⊢
          clear np nd0 ne0
          have mineq := mine15.same sq
          obtain ⟨dm, hmq⟩ := mineq.ex
          obtain ⟨dq, hqq⟩ := hq.ex
          have hne : eqB x y t x y ((t + 1) % x) = false := by
            have e : ¬ t = (t + 1) % x := by
              by_cases hc : t + 1 < x
              · rw [Int.emod_eq_of_lt (by omega) hc]
                omega
              · have : t + 1 = x := by omega
                rw [this, Int.emod_self]
                omega
            unfold eqB
            rw [decide_eq_false e, decide_eq_true rfl, decide_eq_true rfl]
            rfl
          refine ⟨m, dm, _, _, rfl, hmq, T.ownTy hqq, T.nfT, rfl, m, _, x, y, t, rfl, mineq, .inl ⟨q, x, y, _, rfl, hq, _, rfl, ?_⟩⟩
          refine ⟨rfl, _, _, rfl, .inl ⟨congrArg V.bl hne, .inl ⟨_, rfl⟩⟩, fun H17 s17 => ⟨_, rfl, ?_⟩⟩
          refine iteF ?_
          refine nxt ?_
          with_reducible conv => whnf
          refine tail2 _ _ ?_
          exact ⟨rfl, sq.trans s17⟩
        · refine iteF ?_
          refine nxt ?_
          with_reducible conv => whnf
          refine tail2 _ _ ?_
          exact ⟨rfl, Same.refl _⟩
    · have hS4 := GX.Same.sqT M0.sm hS
      refine ⟨_, rfl, s, _, _, _, rfl, rfl, hS4, sh2 x y t, rfl, _, rfl, ?_⟩
      refine ite2 (fun ht0 => ?_) (fun ht0 => ?_)
      · have t0' : t = 0 := V.int.inj (of_decide_eq_true ht0)
        subst t0'
        refine ⟨_, rfl, _, rfl, s, _, _, _, rfl, rfl, hS4, sh0 x y 0, _, rfl, s, _, _, _, rfl, rfl, hS4, sh1 x y 0, ?_⟩
        generalize (upd H3 D (.lst [V.ref p, V.ref p2, V.ref p3])) = H4 at M0 hS4 sD tail1 ⊢
        intro p4 dx np nd0 ne0
        refine ⟨_, _, _, rfl, rfl, p4, dx, x, y, 0, rfl, upd_same, fun _ => ⟨rfl, ?_⟩, fun h3 => absurd h3 (by rw [hG3]; decide)⟩
        obtain ⟨s5, ht5⟩ := madeAt (C := C) (x := x) (y := y) (t := 0) np nd0
        generalize (upd (upd (upd H4 dx (.own p4)) p4 (.ins C dx [])) p4 (.ins C dx (tf x y 0))) = H5 at s5 ht5 ⊢
        clear np nd0 ne0
        have hS5 := GX.Same.sqT s5 hS4
        refine ⟨rfl, _, rfl, s, _, _, _, rfl, rfl, hS5, sh0 x y 0, _, rfl, lx.2.2, _, _, rfl, rfl, ?_, _, rfl, s, _, _, _, rfl, rfl, hS5, sh1 x y 0, _, rfl, ly.2.2, _, _, rfl, rfl, ?_, ?_⟩
        · exact big (by rw [sp1]; omega)
        · exact big (by rw [len_app, sp1]; omega)
        refine readR (ws := [sT x, sT y]) (join2 x y) (List.cons_ne_nil _ _) (by rw [len_app, len_app, sp1]; omega) (fun u hu => ?_) (due2 G) fun p5 H6 s6 np6 ht6 => ?_
        · simp only [List.mem_cons, List.mem_nil_iff, or_false] at hu
          rcases hu with rfl | rfl
          · exact okx
          · exact oky
        refine ⟨by show 2 ≤ sizeLine; decide, fun D2 nD2 => ?_⟩
        have sD2 : Same H6 (upd H6 D2 (.lst [V.ref p4, V.ref p5])) := Same.put nD2
        have s56 := (s5.trans s6).trans sD2
        refine ⟨D, D2, _, _, rfl, rfl, s56 _ _ M0.at_, upd_same, by show 3 + 2 ≤ sizeLine; decide, fun D3 nD3 => ?_⟩
        have sD3 : Same (upd H6 D2 (.lst [V.ref p4, V.ref p5])) (upd (upd H6 D2 (.lst [V.ref p4, V.ref p5])) D3 (.lst (([p, p2, p3].map V.ref) ++ [V.ref p4, V.ref p5]))) := Same.put nD3
        refine tail1 _ _ ?_
        have sA := s56.trans sD3
        refine ⟨D3, [p, p2, p3] ++ [p4, p5], rfl, Nat.le_refl 5, M0.sm.trans sA, (M0.sm.trans s56).free nD3, upd_same, Nat.zero_lt_succ _, (by show 5 ≤ 6; decide), fun a ha => ?_, M0.ring.same sA⟩
        rw [List.mem_append] at ha
        rcases ha with ha | ha
        · exact (M0.all a ha).same sA
        · simp only [List.mem_cons, List.mem_nil_iff, or_false] at ha
          rcases ha with rfl | rfl
          · exact ((ht5.same s6).same sD2).same sD3
          · exact (ht6.same sD2).same sD3
      · refine nxt ?_
        with_reducible conv => whnf
        refine tail1 _ _ ?_
        exact ⟨D, [p, p2, p3], rfl, (by show 3 ≤ 5; decide), M0⟩
end
end K40
/-! part LA40 -/
set_option Elab.async false
set_option linter.all false
set_option maxRecDepth 100000
set_option maxHeartbeats 4000000
namespace K40
open PySem L2 GX
theorem join_len : ∀ (ws : List Str), (∀ z ∈ ws, WordOk z) → (Str.join sep ws).length ≤ 11 * ws.length
  | [], _ => Nat.zero_le _
  | [a], h => by
    have := (h a (List.mem_cons_self ..)).len
    show a.length ≤ 11 * 1
    omega
  | a :: b :: r, h => by
    have h1 := (h a (List.mem_cons_self ..)).len
    have h2 := join_len (b :: r) fun z hz => h z (List.mem_cons_of_mem _ hz)
    have hs : sep.length = 1 := by decide +kernel
    show (a ++ sep ++ Str.join sep (b :: r)).length ≤ _
    rw [len_app, len_app, hs, List.length_cons]
    omega
theorem split_due {ws : List Str} (h : ∀ z ∈ ws, WordOk z) : (∀ u ∈ Txt.split (Str.join sep ws) sep, WordOk u) ∧ due (Txt.split (Str.join sep ws) sep) = due ws := by
  cases ws with
  | nil =>
    have e : Txt.split (Str.join sep []) sep = [Str.empty] := by decide +kernel
    rw [e]
    refine ⟨fun u hu => ?_, ?_⟩
    · rw [List.mem_singleton] at hu
      subst hu
      exact wordOk_of (by decide +kernel)
    · rw [due_len (.inl (by show 1 < 2; decide)), due_len (.inl (by show 0 < 2; decide))]
  | cons a r =>
    have e : Txt.split (Str.join sep (a :: r)) sep = a :: r := split_join (List.cons_ne_nil _ _) fun z hz => (h z hz).nosp
    rw [e]
    exact ⟨h, rfl⟩
theorem due_good {ws : List Str} {a c e : Int} (h : ∀ z ∈ ws, WordOk z) (hd : due ws = .inr (a, c, e)) : Good a c e := by
  by_cases hl : ws.length < 2 ∨ 3 < ws.length
  · rw [due_len hl] at hd
    cases hd
  · cases hb : bad? ws with
    | some k =>
      rw [due_bad hl hb] at hd
      cases hd
    | none =>
      rw [due_fit hl hb] at hd
      unfold bad? at hb
      rw [List.findIdx?_eq_none_iff] at hb
      have hn : ∀ k, k < ws.length → toI (ws.getD k Str.empty) ≤ 1000 := fun k hk => by
        have g := List.mem_of_getElem? (ws_get hk)
        have z := hb _ g
        have z' : numW (ws.getD k Str.empty) = true := by
          cases hh : numW (ws.getD k Str.empty) with
          | true => rfl
          | false => rw [hh] at z; cases z
        exact ((h _ g).num z').2.2
      have n0 := hn 0 (by omega)
      have n1 := hn 1 (by omega)
      split at hd
      · cases hd
      · rename_i hr
        cases hd
        unfold rangeI at hr
        split at hr
        · omega
        · split at hr
          · omega
          · split at hr
            · rename_i q1 q2 q3
              exact ⟨by omega, n0, by omega, n1, q3.1, q3.2⟩
            · omega
end K40
/-! part LB40 -/
set_option Elab.async false
set_option linter.all false
set_option maxRecDepth 100000
set_option maxHeartbeats 4000000
namespace K40
open PySem L2 GX
def spLaw (K : PySem.W.Frag) : Sp := fun vs H Q _ => ∃ (a : Addr) (ns : List Int), vs = [.ref a] ∧ SqL K H a (ns.map V.int) ∧ ∀ H', Q (.bl true) H'
theorem sumlen : ∀ {ws : List Str}, (∀ z ∈ ws, WordOk z) → (ws.map (·.length)).sum ≤ 10 * ws.length
  | [], _ => Nat.zero_le _
  | a :: r, h => by
    have h1 := (h a (List.mem_cons_self ..)).len
    have h2 := sumlen (ws := r) fun z hz => h z (List.mem_cons_of_mem _ hz)
    rw [List.map_cons, List.sum_cons, List.length_cons]
    omega
section
variable {P : Program} {w : World} {K : PySem.W.Frag} {mg : Str → Option Value} {base : Heap} {C CB cM fB DBOUNDS : Addr} {ca : Nat → Addr} {f : Addr} {fd : FuncData}
theorem ok_law (F : Fun K "law" "law" s_law f fd) (T : Txt K mg C CB) (g_law_bag : CalN P w K mg base 1 "_law_bag" 2 [] (sk (spBag K))) (g_law_draw : CalN P w K mg base 1 "_law_draw" 2 [] (sk spDraw)) (g_law_of : CalN P w K mg base 2 "_law_of" 2 [] (sk (spOf K))) (g_law_size : CalN P w K mg base 3 "_law_size" 1 [] (sk spSize))
    (g_law_like : CalN P w K mg base 3 "_law_like" 2 [] (sk (spLike K 3))) (g_law_made_so : CalN P w K mg base 5 "_law_made_so" 2 [] (sk (spTrue K 60))) (g_law_bent_so : CalN P w K mg base 5 "_law_bent_so" 2 [] (sk (spTrue K 60))) (g_law_words : CalN P w K mg base 3 "_law_words" 2 [] (sk (spWords K)))
    (g_law_read : CalN P w K mg base 4 "_law_read" 1 [] (sk (spLRead C))) (g_law_due : CalN P w K mg base 2 "_law_due" 1 [] (sk (spDue K))) (g_law_ring_so : CalN P w K mg base 4 "_law_ring_so" 3 [] (sk (spRing K C))) : FnOk P w K mg base CX0 6 f fd ["script"] (spLaw K) := by
  refine F.ok sc_law (fun vs H Q E h => ?_) (fun cdv A outer st H vs Q E hr h => ?_)
  · obtain ⟨a, ns, rfl, _⟩ := h
    rfl
  · obtain ⟨a, ns, rfl, hA, k⟩ := h
    have nd := sc_law.nd
    refine ⟨_, (pss_cons (ps_set (i := 1) nd rfl (Or.inl rfl) (pn_f g_law_bag hr (by decide) takes0N rfl (pa_cons (pv 0) (pa_cons pe_int pa_nil))))
    (pss_cons (ps_for PassesOwn.never rfl (pi_range1 rfl T.m_range (pa_cons pe_int pa_nil)) (pg_name (i := 2) nd rfl (Or.inl rfl))
      (pss_cons (ps_set (i := 3) nd rfl (Or.inl rfl) (pn_f g_law_size hr (by decide) takes0N rfl (pa_cons (pv 1) pa_nil)))
      (pss_cons (ps_set (i := 4) nd rfl (Or.inl rfl) (pe_tup (pa_cons (pv 3) (pa_cons (pn_f g_law_size hr (by decide) takes0N rfl (pa_cons (pv 1) pa_nil)) (pa_cons (pn_f g_law_of hr (by decide) takes0N rfl (pa_cons (pv 1) (pa_cons (pe_lst (pa_cons pe_int (pa_cons (pn_f g_law_draw hr (by decide) takes0N rfl (pa_cons (pv 1) (pa_cons (pv 3) pa_nil))) (pa_cons (pe_op op_sub (pv 3) pe_int) pa_nil)))) pa_nil))) pa_nil)))))
      (pss_cons (ps_if (PW.pt (pw_or (pt_not (pt_val (pn_f g_law_made_so hr (by decide) takes0N rfl (pa_cons (pv 1) (pa_cons (pv 4) pa_nil))))) (pw_or1 (pt_not (pt_val (pn_f g_law_bent_so hr (by decide) takes0N rfl (pa_cons (pv 1) (pa_cons (pv 4) pa_nil))))))))
        (pss_one (ps_ret pe_bl))
        pss_nil)
      (pss_one (ps_for PassesOwn.never rfl (pi_range1 rfl T.m_range (pa_cons pe_int pa_nil)) (pg_name (i := 5) nd rfl (Or.inl rfl))
        (pss_cons (ps_set (i := 6) nd rfl (Or.inl rfl) (pn_f g_law_words hr (by decide) takes0N rfl (pa_cons (pv 1) (pa_cons (pv 4) pa_nil))))
        (pss_cons (ps_par (i := 7) (j := 8) rfl nd rfl rfl (by decide) rfl rfl (pa_cons (pn_f g_law_read hr (by decide) takes0N rfl (pa_cons (pe_join pe_str (pv 6)) pa_nil)) (pa_cons (pn_f g_law_due hr (by decide) takes0N rfl (pa_cons (pv 6) pa_nil)) pa_nil)) rfl)
        (pss_cons (ps_if (PW.pt (pw_and (pt_cmpR op_eq (pe_ix ix_tup (pv 8) pe_int (fun _ _ => rfl)) pe_str (nomark _)) (pw_and1 (pt_not (pt_val (pn_f g_law_like hr (by decide) takes0N rfl (pa_cons (pv 7) (pa_cons (pv 8) pa_nil))))))))
          (pss_one (ps_ret pe_bl))
          pss_nil)
        (pss_one (ps_if (PW.pt (pw_and (pt_cmpR op_eq (pe_ix ix_tup (pv 8) pe_int (fun _ _ => rfl)) pe_str (nomark _)) (pw_and1 (PW.pt (pw_or (pt_cmpR op_ne (pe_ix ix_tup (pv 7) pe_int (fun _ _ => rfl)) pe_str (nomark _)) (pw_or1 (pt_not (pt_val (pn_f g_law_ring_so hr (by decide) takes0N rfl (pa_cons (pv 1) (pa_cons (pe_ix ix_tup (pv 7) pe_int (fun _ _ => rfl)) (pa_cons (pe_ix ix_tup (pv 8) pe_int (fun _ _ => rfl)) pa_nil))))))))))))
          (pss_one (ps_ret pe_bl))
          pss_nil)))))))))))
    (pss_one (ps_ret pe_bl)))), ?_⟩
    refine ⟨_, rfl, rfl, a, ns, 40, rfl, hA, by decide, by decide, fun b H1 s1 nb hB => ?_⟩
    refine ⟨3, rfl, by decide, by decide, for_range (n := 3) (fun i σ H' => ∃ (l2 l3 l4 l5 l6 l7 l8 : Option V), σ = [some (.ref a), some (.ref b), l2, l3, l4, l5, l6, l7, l8] ∧ BagAt H' b (1000 * i)) ⟨_, _, _, _, _, _, _, rfl, hB⟩ ?_ ?_⟩
    · rintro i σ H2 hi ⟨l2, l3, l4, l5, l6, l7, l8, rfl, B2⟩
      refine ⟨_, rfl, rfl, b, _, rfl, B2, by omega, fun x H3 x0 x1 k3 B3 => ?_⟩
      refine ⟨_, rfl, _, rfl, rfl, b, _, rfl, B3, by omega, fun y H4 y0 y1 k4 B4 => ?_⟩
      refine ⟨_, rfl, _, rfl, _, rfl, rfl, b, _, x, rfl, B4, by omega, by omega, by omega, fun r H5 r0 r1 k5 B5 _ => ?_⟩
      refine ⟨_, rfl, _, _, rfl, rfl, by show 3 ≤ sizeLine; decide, fun l nl => ⟨rfl, b, l, _, _, rfl, B5.same (Same.put nl), by omega, upd_same, (B5.ne nl).symm, Nat.zero_lt_succ _, (by show 3 < 1000; decide), fun xv H6 hx k6 B6 _ => ?_⟩⟩
      obtain ⟨t, rfl, t0, t1⟩ : ∃ t : Int, xv = .int t ∧ 0 ≤ t ∧ t < x := by
        simp only [List.mem_cons, List.mem_nil_iff, or_false] at hx
        rcases hx with rfl | rfl | rfl
        · exact ⟨_, rfl, by decide, by omega⟩
        · exact ⟨_, rfl, r0, r1⟩
        · exact ⟨_, rfl, by omega, by omega⟩
      refine ⟨by show 3 ≤ sizeLine; decide, fun s nS => ?_⟩
      have G : Good x y t := ⟨by omega, x1, by omega, y1, t0, t1⟩
      have B7 := B6.same (Same.put (o := .tup [V.int x, V.int y, V.int t]) nS)
      have hS : SqT K (upd H6 s (.tup [V.int x, V.int y, V.int t])) s (shapeV x y t) := SqT.of upd_same
      generalize (upd H6 s (.tup [V.int x, V.int y, V.int t])) = H7 at B7 hS ⊢
      refine ⟨_, rfl, _, rfl, rfl, b, s, _, x, y, t, rfl, B7, by omega, hS, G, fun H8 k8 B8 => ⟨_, rfl, ?_⟩⟩
      refine iteF ?_
      have hS8 := B7.sqT k8 hS
      refine ⟨_, rfl, _, rfl, rfl, b, s, _, x, y, t, rfl, B8, by omega, hS8, G, fun H9 k9 B9 => ⟨_, rfl, ?_⟩⟩
      refine iteF ?_
      have hS9 := B8.sqT k9 hS8
      refine ⟨3, rfl, by decide, by decide, for_range (n := 3) (fun j σ H' => ∃ (l5 l6 l7 l8 : Option V), σ = [some (.ref a), some (.ref b), some (.int (0 + (i : Int))), some (.int x), some (.ref s), l5, l6, l7, l8] ∧ SqT K H' s (shapeV x y t) ∧ BagAt H' b (1000 * i + 200 + 100 * j)) ⟨_, _, _, _, rfl, hS9, B9.mono (by omega)⟩ ?_ ?_⟩
      · rintro j σ H10 hj ⟨l5, l6, l7, l8, rfl, hS10, B10⟩
        refine ⟨_, rfl, _, rfl, rfl, b, s, _, x, y, t, rfl, B10, by omega, hS10, G, fun q ws H11 k11 nq hq hl ho B11 => ?_⟩
        have hS11 := B10.sqT k11 hS10
        obtain ⟨hso, hsd⟩ := split_due ho
        have hjl := join_len ws ho
        have hsl := sumlen ho
        have hs1 : sep.length = 1 := by decide +kernel
        refine ⟨⟨_, rfl⟩, _, rfl, sep, q, ws, rfl, rfl, .inl (SqL.of hq), by rw [hs1]; omega, ?_⟩
        rw [TL.join_eq]
        refine ⟨rfl, _, rfl, by omega, hso, fun u H12 s12 nu hT => ?_⟩
        rw [hsd] at hT
        refine ⟨_, rfl, rfl, q, ws, rfl, s12 _ _ hq, by omega, ho, fun v H13 s13 hD => ⟨_, _, rfl, ?_⟩⟩
        have hS13 := GX.Same.sqT s13 (GX.Same.sqT s12 hS11)
        have B13 := (B11.same s12).same s13
        generalize hdd : due ws = dd at hT hD
        cases hD with
        | @bad v r hv =>
          cases hT with
          | bad hu =>
            refine ⟨_, rfl, v, _, _, _, rfl, rfl, SqT.of hv, atI_nat (j := 0) rfl, rfl, _, rfl, ?_⟩
            rw [decide_eq_true rfl]
            refine iteT ?_
            refine ⟨_, rfl, _, rfl, rfl, _, _, rfl, Lk.up (lk_tup (SqT.of (s13 _ _ hu)) (SqT.of hv) (by show 2 ≤ 1000000; decide) ?_), fun H14 s14 => ⟨_, rfl, ?_⟩⟩
            · intro z hz
              simp only [List.mem_cons, List.mem_nil_iff, or_false] at hz
              rcases hz with rfl | rfl
              · exact .inr (.inr ⟨_, rfl⟩)
              · exact .inr (.inl ⟨_, rfl⟩)
            refine iteF ?_
            refine ⟨_, rfl, v, _, _, _, rfl, rfl, SqT.of (s14 _ _ hv), atI_nat (j := 0) rfl, rfl, _, rfl, ?_⟩
            refine ite2 (fun z => absurd (of_decide_eq_true z) (by decide +kernel)) (fun _ => ?_)
            refine iteF ?_
            exact ⟨_, _, _, _, rfl, GX.Same.sqT s14 hS13, (B13.same s14).mono (by omega)⟩
        | @ring v sh a' c' e' hv hsh =>
          cases hT with
          | @ring rg _ _ _ hu htor =>
            have GG := due_good ho hdd
            refine ⟨_, rfl, v, _, _, _, rfl, rfl, SqT.of hv, atI_nat (j := 0) rfl, rfl, _, rfl, ?_⟩
            refine ite2 (fun z => absurd (of_decide_eq_true z) (by decide +kernel)) (fun _ => ?_)
            refine iteF ?_
            refine ⟨_, rfl, v, _, _, _, rfl, rfl, SqT.of hv, atI_nat (j := 0) rfl, rfl, _, rfl, ?_⟩
            rw [decide_eq_true rfl]
            refine iteT ?_
            have hu13 := s13 _ _ hu
            refine ⟨_, rfl, u, _, _, _, rfl, rfl, SqT.of hu13, atI_nat (j := 0) rfl, rfl, _, rfl, ?_⟩
            rw [decide_eq_true rfl]
            refine iteF ?_
            refine ⟨_, rfl, _, rfl, u, _, _, _, rfl, rfl, SqT.of hu13, atI_nat (j := 1) rfl, _, rfl, v, _, _, _, rfl, rfl, SqT.of hv, atI_nat (j := 1) rfl, rfl, b, rg, sh, _, a', c', e', rfl, B13, by omega, htor.same s13, SqT.of hsh, GG, fun H14 k14 B14 => ⟨_, rfl, ?_⟩⟩
            refine iteF ?_
            exact ⟨_, _, _, _, rfl, B13.sqT k14 hS13, B14.mono (by omega)⟩
      · rintro σ H10 ⟨l5, l6, l7, l8, rfl, hS10, B10⟩
        exact ⟨_, _, _, _, _, _, _, rfl, B10.mono (by omega)⟩
    · rintro σ H2 ⟨l2, l3, l4, l5, l6, l7, l8, rfl, B2⟩
      exact k H2
end
end K40
/-! part EA40 -/
set_option Elab.async false
set_option linter.all false
set_option maxRecDepth 100000
set_option maxHeartbeats 4000000
namespace GX
open PySem PySem.W PySem.Spec PyProof.Rows L2
/-- a def of the module, as it stands -/
structure DefAt (K : Frag) (mg : Str → Option Value) (x : Str) (st : Stmt) : Prop where
  ex : ∃ f fd, L2.Fun K x x st f fd ∧ mg x = some (.ref f)
/-- a method: its function stands at f -/
structure FunAt (K : Frag) (m qual : Str) (st : Stmt) (f : Addr) : Prop where
  ex : ∃ fd, L2.Fun K m qual st f fd
structure ClsAt (K : Frag) (mg : Str → Option Value) (D : Addr) (x : Str) (c : Addr) (b : Bool) : Prop where
  g : mg x = some (.ref c)
  c : ClsX K D c b
section
variable {K : Frag} {h : Heap} {mg : Str → Option Value}
theorem def_mk {x : Str} {st : Stmt} {f : Addr} {oc : Value} {od an : Option Addr} {osl : Array (Option Value)} {kV doc pm cdv ct : Value} (X : K.In h) (G : h.Ns mainGlobals mg) (a : nsIn K mainGlobals x = some (some (.ref f)))
    (l : K.lookup f = some ⟨oc, od, .func (fnOf x x (defArgs st) (defBody st) (defScope st) .none kV doc pm an cdv ct), osl⟩) (c : codeIn K cdv x = true) (k : keepIn K (.ref f) = true) : DefAt K mg x st :=
  ⟨f, _, fun_mk l c k, mg_of X G a⟩
theorem funAt_mk {m qual : Str} {st : Stmt} {f : Addr} {oc : Value} {od an : Option Addr} {osl : Array (Option Value)} {kV doc pm cdv ct : Value}
    (l : K.lookup f = some ⟨oc, od, .func (fnOf m qual (defArgs st) (defBody st) (defScope st) .none kV doc pm an cdv ct), osl⟩) (c : codeIn K cdv qual = true) (k : keepIn K (.ref f) = true) : FunAt K m qual st f := ⟨_, fun_mk l c k⟩
theorem clsAt_mk {D c : Addr} {x : Str} {b : Bool} (X : K.In h) (G : h.Ns mainGlobals mg) (a : nsIn K mainGlobals x = some (some (.ref c))) (s : subIn K (.ref D) (.ref c) = some b) (hd : hasDictIn K c = true) (ty : typeIn K (.ref c) = some (.type "type")) (e : subIn K (.ref c) (.type "BaseException") = some true) :
    ClsAt K mg D x c b := ⟨mg_of X G a, s, hd, ty, e⟩
theorem kit_any {t : Value} {c : Addr} {b : Bool} (hd : hasDictIn K c = true) (ty : typeIn K (.ref c) = some (.type "type")) (s : subIn K t (.ref c) = some b) (ne : (t == .ref c) = false) : kitOne K t (.ref c) = some b := by
  obtain ⟨cd, hc, _⟩ := any_some hd
  refine (if_neg (by rw [ne]; decide)).trans ?_
  show (if ((clsIn K c).isSome && typeIn K (.ref c) == some (.type "type")) = true then subIn K t (.ref c) else none) = some b
  rw [hc, ty, if_pos (by simp), s]
end
section
variable {P : Program} {w : World} {K : Frag} {mg : Str → Option Value} {base : Heap}
theorem cal_mk {x : Str} {st : Stmt} {k n : Nat} {ps : List Str} {sp : Sp} (D : DefAt K mg x st) (ok : ∀ f fd, L2.Fun K x x st f fd → FnOk P w K mg base CX0 k f fd ps sp) (hn : ps.length = n)
    (bp : ∀ (kV doc pm : Value) (an : Option Addr) (cdv ct : Value) (us : List Value), us.length = ps.length → bindArgs (fnOf x x (defArgs st) (defBody st) (defScope st) .none kV doc pm an cdv ct) ⟨us, []⟩ = pure (ps.zip us)) : CalN P w K mg base k x n [] (sk sp) := by
  obtain ⟨f, fd, F, hm⟩ := D.ex
  exact ⟨f, hm, F.kp, calK_of (FnOk.up (ok f fd F)) (F.binds bp) hn⟩
theorem met_mk {m qual : Str} {st : Stmt} {k n : Nat} {C f : Addr} {ps : List Str} {sp : Sp} (D : FunAt K m qual st f) (a : findIn K (.ref C) m = some (some (.ref f))) (i : isFn K (.ref f) = true) (ok : ∀ fd, L2.Fun K m qual st f fd → FnOk P w K mg base CX0 k f fd ps sp) (hn : ps.length = n)
    (bp : ∀ (kV doc pm : Value) (an : Option Addr) (cdv ct : Value) (us : List Value), us.length = ps.length → bindArgs (fnOf m qual (defArgs st) (defBody st) (defScope st) .none kV doc pm an cdv ct) ⟨us, []⟩ = pure (ps.zip us)) : MetN P w K mg base k C m n (sk sp) := by
  obtain ⟨fd, F⟩ := D.ex
  exact ⟨f, ⟨a, i, F.kp⟩, calK_of (FnOk.up (ok fd F)) (F.binds bp) hn⟩
theorem prp_mk {m qual : Str} {st : Stmt} {k : Nat} {C p f : Addr} {ps : List Str} {sp : Sp} (D : FunAt K m qual st f) (a : PropOf K C m p f) (ok : ∀ fd, L2.Fun K m qual st f fd → FnOk P w K mg base CX0 k f fd ps sp) (hn : ps.length = 1)
    (bp : ∀ (kV doc pm : Value) (an : Option Addr) (cdv ct : Value) (us : List Value), us.length = ps.length → bindArgs (fnOf m qual (defArgs st) (defBody st) (defScope st) .none kV doc pm an cdv ct) ⟨us, []⟩ = pure (ps.zip us)) : PrpN P w K mg base k C m (sk sp) := by
  obtain ⟨fd, F⟩ := D.ex
  exact ⟨p, f, a, calK_of (FnOk.up (ok fd F)) (F.binds bp) hn⟩
theorem sta_mk {m qual : Str} {st : Stmt} {k n : Nat} {C f : Addr} {ps : List Str} {sp : Sp} (D : FunAt K m qual st f) (a : keepIn K (.ref f) = true → Stat K C m f) (ok : ∀ fd, L2.Fun K m qual st f fd → FnOk P w K mg base (L2N.CX P w) k f fd ps sp) (hn : ps.length = n)
    (bp : ∀ (kV doc pm : Value) (an : Option Addr) (cdv ct : Value) (us : List Value), us.length = ps.length → bindArgs (fnOf m qual (defArgs st) (defBody st) (defScope st) .none kV doc pm an cdv ct) ⟨us, []⟩ = pure (ps.zip us)) : StaN P w K mg base k C m n (sk sp) := by
  obtain ⟨fd, F⟩ := D.ex
  exact ⟨f, a F.kp, calK_of (ok fd F) (F.binds bp) hn⟩
end
end GX
/-! part EB40 -/
set_option Elab.async false
set_option linter.all false
set_option maxRecDepth 100000
set_option maxHeartbeats 4000000
namespace K40
open PySem L2 GX
def gK0 {α : Type} (us _ds ws : List α) : List α := match us, ws with
  | [a], [h, t, w] => [a, w, h, t]
  | _, _ => []
def gK2 {α : Type} (us _ds ws : List α) : List α := match us, ws with
  | [a, u, h], [t] => [a, u, h, t]
  | _, _ => []
theorem gK0_rel {vs ds zs : List V} {us its ws : List Value} (a : Vals vs us) (b : Vals ds its) (c : Vals zs ws) : Vals (gK0 vs ds zs) (gK0 us its ws) := by
  rcases a with _ | ⟨a1, _ | ⟨a2, a3⟩⟩
  · exact .nil
  · rcases c with _ | ⟨c1, _ | ⟨c2, _ | ⟨c3, _ | ⟨c4, c5⟩⟩⟩⟩
    · exact .nil
    · exact .nil
    · exact .nil
    · exact .cons a1 (.cons c3 (.cons c1 (.cons c2 .nil)))
    · exact .nil
  · exact .nil
theorem gK2_rel {vs ds zs : List V} {us its ws : List Value} (a : Vals vs us) (b : Vals ds its) (c : Vals zs ws) : Vals (gK2 vs ds zs) (gK2 us its ws) := by
  rcases a with _ | ⟨a1, _ | ⟨a2, _ | ⟨a3, _ | ⟨a4, a5⟩⟩⟩⟩
  · exact .nil
  · exact .nil
  · exact .nil
  · rcases c with _ | ⟨c1, _ | ⟨c2, c3⟩⟩
    · exact .nil
    · exact .cons a1 (.cons a2 (.cons a3 (.cons c1 .nil)))
    · exact .nil
  · exact .nil
section
variable {P : Program} {w : World} {K : PySem.W.Frag} {mg : Str → Option Value} {base : Heap} {C CB cM fB DBOUNDS : Addr} {f : Addr} {fd : FuncData}
abbrev InitD (K : PySem.W.Frag) (f : Addr) (fd : FuncData) : Prop := FunD K "__init__" "Torus.__init__" (defArgs s_Torus___init__) (defBody s_Torus___init__) (defScope s_Torus___init__) [V.int 0] [] f fd
abbrev psI : List Str := ["self", "width", "height", "twist"]
theorem newN3 (M : Mk K C f) (g : mg "Torus" = some (.ref C)) (F : InitD K f fd) (ok : FnOk P w K mg base (L2N.CX P w) 1 f fd psI (spInit C CB)) : NewN P w K mg base 1 "Torus" C 3 [] (sk (spInit C CB)) := by
  have b := F.binds1 (ps := psI) 4 1 (List.cons_ne_nil _ _) rfl fun T kV doc pm an cdv ct us its h1 h2 => match us, its, h1, h2 with | [_, _, _, _], [_], _, _ => ⟨_, rfl, rfl⟩
  refine ⟨f, g, M, CalK.imp (calK_df (m := 0) (n := 4) ok b rfl rfl) fun vs zs H Q E h => ⟨h.1, ?_⟩⟩
  show spInit C CB (vs ++ []) H Q E
  rw [List.append_nil]
  exact h.2
theorem newN2' (M : Mk K C f) (g : mg "Torus" = some (.ref C)) (F : InitD K f fd) (ok : FnOk P w K mg base (L2N.CX P w) 1 f fd psI (spInit C CB)) : NewN P w K mg base 1 "Torus" C 2 [] (spN2 C CB) := by
  have b := F.binds1 (ps := psI) 3 0 (List.cons_ne_nil _ _) rfl fun T kV doc pm an cdv ct us its h1 h2 => match us, its, h1, h2 with | [_, _, _], [_], _, _ => ⟨_, rfl, rfl⟩
  refine ⟨f, g, M, CalK.imp (calK_df (m := 1) (n := 3) ok b rfl rfl) fun vs zs H Q E h => ?_⟩
  obtain ⟨a, u, t, rfl, rfl, h⟩ := h
  exact ⟨rfl, h⟩
theorem newK0' (M : Mk K C f) (g : mg "Torus" = some (.ref C)) (F : InitD K f fd) (ok : FnOk P w K mg base (L2N.CX P w) 1 f fd psI (spInit C CB)) : NewN P w K mg base 1 "Torus" C 0 ["height", "twist", "width"] (spK0 C CB) := by
  obtain ⟨its, b⟩ := F.kbindsD (ps := psI) 1 ["height", "twist", "width"] (fun {α} => gK0 (α := α)) (List.cons_ne_nil _ _) (fun a b c => gK0_rel a b c)
    fun T kV doc pm an cdv ct us its ws h1 h2 h3 => match us, its, ws, h1, h2, h3 with | [_], [_], [_, _, _], _, _, _ => ⟨_, rfl, rfl⟩
  refine ⟨f, g, M, CalK.imp (calK_kw ok b) fun vs zs H Q E h => ?_⟩
  obtain ⟨a, h, t, u, rfl, rfl, k⟩ := h
  exact ⟨rfl, rfl, k⟩
theorem newK2' (M : Mk K C f) (g : mg "Torus" = some (.ref C)) (F : InitD K f fd) (ok : FnOk P w K mg base (L2N.CX P w) 1 f fd psI (spInit C CB)) : NewN P w K mg base 1 "Torus" C 2 ["twist"] (spK2 C CB) := by
  obtain ⟨its, b⟩ := F.kbindsD (ps := psI) 3 ["twist"] (fun {α} => gK2 (α := α)) (List.cons_ne_nil _ _) (fun a b c => gK2_rel a b c)
    fun T kV doc pm an cdv ct us its ws h1 h2 h3 => match us, its, ws, h1, h2, h3 with | [_, _, _], [_], [_], _, _, _ => ⟨_, rfl, rfl⟩
  refine ⟨f, g, M, CalK.imp (calK_kw ok b) fun vs zs H Q E h => ?_⟩
  obtain ⟨a, u, h, t, rfl, rfl, k⟩ := h
  exact ⟨rfl, rfl, k⟩
theorem initD_mk {oc : Value} {od an : Option Addr} {osl : Array (Option Value)} {kV doc pm cdv ct : Value} {TD : Addr} {oc2 : Value} {od2 : Option Addr} {tk : Tok} {n : Nat} {sl2 : Array (Option Value)}
    (l : K.lookup f = some ⟨oc, od, .func (PySem.W.fnOf "__init__" "Torus.__init__" (defArgs s_Torus___init__) (defBody s_Torus___init__) (defScope s_Torus___init__) (.ref TD) kV doc pm an cdv ct), osl⟩) (c : PySem.W.codeIn K cdv "Torus.__init__" = true) (k : PySem.W.keepIn K (.ref f) = true)
    (lT : K.lookup TD = some ⟨oc2, od2, .seq #[.int 0 tk] n, sl2⟩) : ∃ fd, InitD K f fd :=
  ⟨_, ⟨oc, od, .ref TD, kV, doc, pm, an, cdv, ct, osl, rfl, l, c, .inr ⟨List.cons_ne_nil _ _, TD, _, [.int 0 tk], n, rfl, lT, rfl, .cons ⟨tk, rfl⟩ .nil⟩, .inl rfl⟩, k⟩
end
end K40
/-! part EC40 -/
set_option Elab.async false
set_option linter.all false
set_option maxRecDepth 100000
set_option maxHeartbeats 4000000
namespace K40
open PySem L2 GX
section
variable {P : Program} {w : World} {K : PySem.W.Frag} {mg : Str → Option Value} {base : Heap} {C CB cM fB DBOUNDS : Addr}
theorem cal_like (d : DefAt K mg "_law_like" s_law_like) (T : Txt K mg C CB) : ∀ k, CalN P w K mg base k "_law_like" 2 [] (sk (spLike K k))
  | 0 => by
    obtain ⟨f, fd, F, hm⟩ := d.ex
    obtain ⟨f', h1, h2, h3⟩ := (cal_no (P := P) (w := w) (base := base) F hm (F.binds (ps := ["told", "due"]) (fun _ _ _ _ _ _ us hl => match us, hl with | [_, _], _ => rfl))).ex
    exact ⟨f', h1, h2, CalK.imp h3 fun vs zs H Q E h => ⟨h.1, by
      obtain ⟨x, y, _, h4, _⟩ := h.2
      exact False.elim h4⟩⟩
  | k + 1 => cal_mk d (fun f fd F => ok_like F T (cal_like d T k)) rfl (fun _ _ _ _ _ _ us hl => match us, hl with | [_, _], _ => rfl)
theorem all_mk {fa fI fR fS fX fW fC fE pS pX : Addr} {fdI : FuncData} {c0 c1 c2 c3 c4 c5 c6 c7 c8 c9 c10 c11 c12 c13 c14 c15 : Addr} (hfa : mg "law" = some (.ref fa))
    (T : Txt K mg C CB) (TE : TxtE P w K mg CB fB DBOUNDS) (xk : ExK K CB) (no_at : PySem.W.findIn K (.ref CB) "at" = some none) (self : PySem.W.subIn K (.ref CB) (.ref CB) = some true) (m_VE : mg "ValueError" = none) (kV : PySem.W.kitOne K (.ref CB) (.type "ValueError") = some true) (qM : ClsAt K mg CB "Malformed" cM true)
    (q0 : ClsAt K mg CB "BadNumber" c0 false) (q1 : ClsAt K mg CB "BadSum" c1 false) (q2 : ClsAt K mg CB "BadTable" c2 false) (q3 : ClsAt K mg CB "BadDeed" c3 false) (q4 : ClsAt K mg CB "BadBook" c4 false) (q5 : ClsAt K mg CB "BadPattern" c5 false) (q6 : ClsAt K mg CB "BadName" c6 false) (q7 : ClsAt K mg CB "BadGate" c7 false) (q8 : ClsAt K mg CB "BadRule" c8 false) (q9 : ClsAt K mg CB "BadCharge" c9 false) (q10 : ClsAt K mg CB "BadScript" c10 false) (q11 : ClsAt K mg CB "NoSuch" c11 false) (q12 : ClsAt K mg CB "Ended" c12 false) (q13 : ClsAt K mg CB "TooMany" c13 false) (q14 : ClsAt K mg CB "Unlike" c14 false) (q15 : ClsAt K mg CB "Refused" c15 false)
    (M : Mk K C fI) (FI : InitD K fI fdI) (dR : FunAt K "read" "Torus.read" s_Torus_read fR) (stR : PySem.W.keepIn K (.ref fR) = true → Stat K C "read" fR) (dS : FunAt K "sites" "Torus.sites" s_Torus_sites fS) (prS : PropOf K C "sites" pS fS) (dX : FunAt K "text" "Torus.text" s_Torus_text fX) (prX : PropOf K C "text" pX fX)
    (dW : FunAt K "written" "Torus.written" s_Torus_written fW) (aW : PySem.W.findIn K (.ref C) "written" = some (some (.ref fW))) (iW : PySem.W.isFn K (.ref fW) = true) (dC : FunAt K "closes" "Torus.closes" s_Torus_closes fC) (aC : PySem.W.findIn K (.ref C) "closes" = some (some (.ref fC))) (iC : PySem.W.isFn K (.ref fC) = true)
    (dE : FunAt K "__eq__" "Torus.__eq__" s_Torus___eq__ fE) (aE : PySem.W.findIn K (.ref C) "__eq__" = some (some (.ref fE))) (iE : PySem.W.isFn K (.ref fE) = true)
    (d_is_number_word : DefAt K mg "is_number_word" s_is_number_word) (d_law_bag : DefAt K mg "_law_bag" s_law_bag) (d_law_draw : DefAt K mg "_law_draw" s_law_draw) (d_law_of : DefAt K mg "_law_of" s_law_of) (d_law_like : DefAt K mg "_law_like" s_law_like) (d_law_site : DefAt K mg "_law_site" s_law_site) (d_law_sites : DefAt K mg "_law_sites" s_law_sites) (d_law_size : DefAt K mg "_law_size" s_law_size) (d_law_fault : DefAt K mg "_law_fault" s_law_fault) (d_law_called : DefAt K mg "_law_called" s_law_called) (d_law_read : DefAt K mg "_law_read" s_law_read) (d_law_plain : DefAt K mg "_law_plain" s_law_plain) (d_law_range : DefAt K mg "_law_range" s_law_range) (d_law_due : DefAt K mg "_law_due" s_law_due) (d_law_ring_so : DefAt K mg "_law_ring_so" s_law_ring_so) (d_law_made_so : DefAt K mg "_law_made_so" s_law_made_so) (d_law_bent_so : DefAt K mg "_law_bent_so" s_law_bent_so) (d_law_words : DefAt K mg "_law_words" s_law_words) (d_law : DefAt K mg "law" s_law) :
    ∃ fd : FuncData, (∀ (s : Shared) (v : Value), BindsTo s fd ⟨[v], []⟩ [("script", v)]) ∧ ∀ base : Heap, K.In base → base.Ns mainGlobals mg → FnOk P w K mg base CX0 6 fa fd ["script"] (spLaw K) := by
  obtain ⟨fl, fdl, Fl, hl⟩ := d_law.ex
  have e := hfa.symm.trans hl
  cases e
  refine ⟨fdl, fun s v => ?_, fun base _ _ => ?_⟩
  · obtain ⟨oc, od, kV, doc, pm, an, cdv, ct, osl, rfl, lk, hcd⟩ := Fl.ex
    exact .of_eq rfl
  have TF : TxtF K mg CB (fun i => [c0, c1, c2, c3, c4, c5, c6, c7, c8, c9, c10, c11, c12, c13, c14, c15].getD i 0) cM := ⟨xk, no_at, self, m_VE, kV, TE.r_BadTorus.gC, qM.g, qM.c, q0.g, q0.c, q1.g, q1.c, q2.g, q2.c, q3.g, q3.c, q4.g, q4.c, q5.g, q5.c, q6.g, q6.c, q7.g, q7.c, q8.g, q8.c, q9.g, q9.c, q10.g, q10.c, q11.g, q11.c, q12.g, q12.c, q13.g, q13.c, q14.g, q14.c, q15.g, q15.c⟩
  have g_draw : CalN P w K mg base 1 "_law_draw" 2 [] (sk spDraw) := cal_mk d_law_draw (fun f fd F => ok_draw F T) rfl (fun _ _ _ _ _ _ us hl => match us, hl with | [_, _], _ => rfl)
  have g_bag : CalN P w K mg base 1 "_law_bag" 2 [] (sk (spBag K)) := cal_mk d_law_bag (fun f fd F => ok_bag F T) rfl (fun _ _ _ _ _ _ us hl => match us, hl with | [_, _], _ => rfl)
  have g_of : CalN P w K mg base 2 "_law_of" 2 [] (sk (spOf K)) := cal_mk d_law_of (fun f fd F => ok_of F T g_draw) rfl (fun _ _ _ _ _ _ us hl => match us, hl with | [_, _], _ => rfl)
  have g_size : CalN P w K mg base 3 "_law_size" 1 [] (sk spSize) := cal_mk d_law_size (fun f fd F => ok_size F T g_draw g_of) rfl (fun _ _ _ _ _ _ us hl => match us, hl with | [_], _ => rfl)
  have g_like : CalN P w K mg base 3 "_law_like" 2 [] (sk (spLike K 3)) := cal_like d_law_like T 3
  have g_site : CalN P w K mg base 1 "_law_site" 3 [] (sk (spSite K)) := cal_mk d_law_site (fun f fd F => ok_site F T) rfl (fun _ _ _ _ _ _ us hl => match us, hl with | [_, _, _], _ => rfl)
  have g_sites : CalN P w K mg base 1 "_law_sites" 1 [] (sk (spSites K)) := cal_mk d_law_sites (fun f fd F => ok_sites F T) rfl (fun _ _ _ _ _ _ us hl => match us, hl with | [_], _ => rfl)
  have g_num : CalN P w K mg base 1 "is_number_word" 1 [] (sk spNum) := cal_mk d_is_number_word (fun f fd F => ok_num F T) rfl (fun _ _ _ _ _ _ us hl => match us, hl with | [_], _ => rfl)
  have g_plain : CalN P w K mg base 1 "_law_plain" 1 [] (sk spPlain) := cal_mk d_law_plain (fun f fd F => ok_plain F T) rfl (fun _ _ _ _ _ _ us hl => match us, hl with | [_], _ => rfl)
  have g_range : CalN P w K mg base 1 "_law_range" 1 [] (sk spRange) := cal_mk d_law_range (fun f fd F => ok_range F T) rfl (fun _ _ _ _ _ _ us hl => match us, hl with | [_], _ => rfl)
  have g_due : CalN P w K mg base 2 "_law_due" 1 [] (sk (spDue K)) := cal_mk d_law_due (fun f fd F => ok_due F T g_plain g_range) rfl (fun _ _ _ _ _ _ us hl => match us, hl with | [_], _ => rfl)
  have okI : FnOk P w K mg base (L2N.CX P w) 1 fI fdI psI (spInit C CB) := ok_init FI T TE
  have n3 := newN3 M T.g_Torus FI okI
  have n2 := newN2' M T.g_Torus FI okI
  have nK0 := newK0' M T.g_Torus FI okI
  have nK2 := newK2' M T.g_Torus FI okI
  have sR : StaN P w K mg base 3 C "read" 1 (sk (spRead C CB)) := sta_mk dR stR (fun fd F => ok_read F T TE g_num n3) rfl (fun _ _ _ _ _ _ us hl => match us, hl with | [_], _ => rfl)
  have pS : PrpN P w K mg base 1 C "sites" (sk (spPSites C)) := prp_mk dS prS (fun fd F => ok_psites F T) rfl (fun _ _ _ _ _ _ us hl => match us, hl with | [_], _ => rfl)
  have pX : PrpN P w K mg base 1 C "text" (sk (spText C)) := prp_mk dX prX (fun fd F => ok_text F T) rfl (fun _ _ _ _ _ _ us hl => match us, hl with | [_], _ => rfl)
  have mW : MetN P w K mg base 1 C "written" 3 (sk (spWritten C)) := met_mk dW aW iW (fun fd F => ok_written F T) rfl (fun _ _ _ _ _ _ us hl => match us, hl with | [_, _, _], _ => rfl)
  have mC : MetN P w K mg base 2 C "closes" 3 (sk (spCloses C)) := met_mk dC aC iC (fun fd F => ok_closes F T mW) rfl (fun _ _ _ _ _ _ us hl => match us, hl with | [_, _, _], _ => rfl)
  have mE : MetN P w K mg base 1 C "__eq__" 2 (sk (spEq K C)) := met_mk dE aE iE (fun fd F => ok_eq F T) rfl (fun _ _ _ _ _ _ us hl => match us, hl with | [_, _], _ => rfl)
  obtain ⟨ff, fdf, Ff, hff⟩ := d_law_fault.ex
  have bF := Ff.binds (ps := ["e"]) (fun _ _ _ _ _ _ us hl => match us, hl with | [_], _ => rfl)
  have eF : FnE P w K mg base 1 ff fdf ["e"] (spFault CB) := ok_fault Ff T TF
  have g_called : CalN P w K mg base 3 "_law_called" 1 [] (sk (spCalled C)) := cal_mk d_law_called (fun f fd F => ok_called F T TF n3 eF hff Ff.kp bF) rfl (fun _ _ _ _ _ _ us hl => match us, hl with | [_], _ => rfl)
  have g_read : CalN P w K mg base 4 "_law_read" 1 [] (sk (spLRead C)) := cal_mk d_law_read (fun f fd F => ok_lread F T TF sR eF hff Ff.kp bF) rfl (fun _ _ _ _ _ _ us hl => match us, hl with | [_], _ => rfl)
  have g_ring : CalN P w K mg base 4 "_law_ring_so" 3 [] (sk (spRing K C)) := cal_mk d_law_ring_so (fun f fd F => ok_ring F T g_draw g_of g_like g_site g_sites pX pS mW mC) rfl (fun _ _ _ _ _ _ us hl => match us, hl with | [_, _, _], _ => rfl)
  have g_bent : CalN P w K mg base 5 "_law_bent_so" 2 [] (sk (spTrue K 60)) := cal_mk d_law_bent_so (fun f fd F => ok_bent F T g_draw g_of g_like g_called g_range g_ring) rfl (fun _ _ _ _ _ _ us hl => match us, hl with | [_, _], _ => rfl)
  have g_made : CalN P w K mg base 5 "_law_made_so" 2 [] (sk (spTrue K 60)) := cal_mk d_law_made_so (fun f fd F => ok_made F T g_of g_like g_ring sR mE pX n3 n2 nK2 nK0) rfl (fun _ _ _ _ _ _ us hl => match us, hl with | [_, _], _ => rfl)
  have g_words : CalN P w K mg base 3 "_law_words" 2 [] (sk (spWords K)) := cal_mk d_law_words (fun f fd F => ok_words F T g_draw g_of) rfl (fun _ _ _ _ _ _ us hl => match us, hl with | [_, _], _ => rfl)
  exact ok_law Fl T g_bag g_draw g_of g_size g_like g_made g_bent g_words g_read g_due g_ring
end
end K40
/-! part ED40 -/
set_option Elab.async false
set_option linter.all false
set_option maxRecDepth 100000
set_option maxHeartbeats 4000000
namespace GX
open PySem PySem.W PySem.Spec PyProof.Rows L2
section
variable {K : Frag} {h : Heap} {mg : Str → Option Value}
theorem exk_mk {D : Addr} (hd : hasDictIn K D = true) (ga : findIn K (.ref D) "__getattribute__" = some (some (.builtin "BaseException.__getattribute__"))) (gg : findIn K (.ref D) "__getattr__" = some none) (ex : subIn K (.ref D) (.type "BaseException") = some true)
    (ha : findIn K (.ref D) "__class__" = some (some (.builtin "object.__class__"))) (hn : specialIn K (.builtin "object.__class__") "__get__" = some (some (.builtin "getset_descriptor.__get__"))) (ht : takesIn K (.builtin "object.__class__") = some true) (hm : mroIn K D (.type "object") = some true) : ExK K D := by
  obtain ⟨cd, hc, _⟩ := any_some hd
  exact ⟨by rw [hc]; rfl, ga, gg, ex, hd, ha, hn, ht, hm⟩
theorem exk_mk' {D : Addr} {x : Str} (X : K.In h) (aD : nsIn K mainGlobals x = some (some (.ref D))) (hd : hasDictIn K D = true) (ga : findIn K (.ref D) "__getattribute__" = some (some (.builtin "BaseException.__getattribute__"))) (gg : findIn K (.ref D) "__getattr__" = some none) (ex : subIn K (.ref D) (.type "BaseException") = some true)
    (ha : findIn K (.ref D) "__class__" = some (some (.builtin "object.__class__"))) (hn : specialIn K (.builtin "object.__class__") "__get__" = some (some (.builtin "getset_descriptor.__get__"))) (ht : takesIn K (.builtin "object.__class__") = some true) (hm : mroIn K D (.type "object") = some true)
    {f : Str} (no : findIn K (.ref D) f = some none) (self : subIn K (.ref D) (.ref D) = some true) {B : String} (mB : kitMeta B = true) (sB : subIn K (.ref D) (.type B) = some true) : ExK K D ∧ findIn K (.ref D) f = some none ∧ subIn K (.ref D) (.ref D) = some true ∧ kitOne K (.ref D) (.type B) = some true := by
  refine ⟨exk_mk hd ga gg ex ha hn ht hm, no, self, ?_⟩
  refine (if_neg (fun z => Bool.noConfusion (show false = true from z))).trans ?_
  show (if kitMeta B = true then subIn K (.ref D) (.type B) else none) = some true
  rw [if_pos mB, sB]
theorem cls_mk {D c : Addr} {x y : Str} {b : Bool} (X : K.In h) (G : h.Ns mainGlobals mg) (aD : nsIn K mainGlobals y = some (some (.ref D))) (a : nsIn K mainGlobals x = some (some (.ref c))) (s : subIn K (.ref D) (.ref c) = some b) (hd : hasDictIn K c = true) (ty : typeIn K (.ref c) = some (.type "type")) (e : subIn K (.ref c) (.type "BaseException") = some true) :
    ClsAt K mg D x c b := ⟨mg_of X G a, s, hd, ty, e⟩
theorem mt_mk {C f : Addr} {x m qual : Str} {st : Stmt} {oc : Value} {od an : Option Addr} {osl : Array (Option Value)} {kV doc pm cdv ct : Value} (X : K.In h) (aC : nsIn K mainGlobals x = some (some (.ref C))) (a : findIn K (.ref C) m = some (some (.ref f))) (i : isFn K (.ref f) = true)
    (l : K.lookup f = some ⟨oc, od, .func (fnOf m qual (defArgs st) (defBody st) (defScope st) .none kV doc pm an cdv ct), osl⟩) (c : codeIn K cdv qual = true) (k : keepIn K (.ref f) = true) : FunAt K m qual st f ∧ findIn K (.ref C) m = some (some (.ref f)) ∧ isFn K (.ref f) = true := ⟨⟨_, fun_mk l c k⟩, a, i⟩
theorem pr_mk {C p f : Addr} {x m qual : Str} {st : Stmt} {rest : List Value} {oc : Value} {od an : Option Addr} {osl : Array (Option Value)} {kV doc pm cdv ct : Value} (X : K.In h) (aC : nsIn K mainGlobals x = some (some (.ref C))) (a : findIn K (.ref C) m = some (some (.ref p))) (b : specialIn K (.ref p) "__get__" = some (some (.builtin "property.__get__"))) (c : takesIn K (.ref p) = some true) (d : recIn K p "property" = some (.ref f :: rest))
    (l : K.lookup f = some ⟨oc, od, .func (fnOf m qual (defArgs st) (defBody st) (defScope st) .none kV doc pm an cdv ct), osl⟩) (cc : codeIn K cdv qual = true) (k : keepIn K (.ref f) = true) : FunAt K m qual st f ∧ PropOf K C m p f := ⟨⟨_, fun_mk l cc k⟩, a, b, c, rest, d⟩
theorem st_mk {C p f : Addr} {x m qual : Str} {st : Stmt} {rest : List Value} {oc : Value} {od an : Option Addr} {osl : Array (Option Value)} {kV doc pm cdv ct : Value} (X : K.In h) (aC : nsIn K mainGlobals x = some (some (.ref C))) (a : readsIn K C (.type "type") = true) (b : specialIn K (.ref C) "__getattribute__" = some (some (.builtin "type.__getattribute__")))
    (c : findCls K (.ref C) (.type "type") m = some (.get (.builtin "staticmethod.__get__") (.ref p) .none (.ref C))) (d : recIn K p "staticmethod" = some (.ref f :: rest))
    (l : K.lookup f = some ⟨oc, od, .func (fnOf m qual (defArgs st) (defBody st) (defScope st) .none kV doc pm an cdv ct), osl⟩) (cc : codeIn K cdv qual = true) (k : keepIn K (.ref f) = true) : FunAt K m qual st f ∧ (keepIn K (.ref f) = true → Stat K C m f) := ⟨⟨_, fun_mk l cc k⟩, fun k => ⟨a, b, ⟨p, rest, c, d⟩, k⟩⟩
theorem prop_mk {C p g : Addr} {m : Str} {rest : List Value} (a : findIn K (.ref C) m = some (some (.ref p))) (b : specialIn K (.ref p) "__get__" = some (some (.builtin "property.__get__"))) (c : takesIn K (.ref p) = some true) (d : recIn K p "property" = some (.ref g :: rest)) : PropOf K C m p g := ⟨a, b, c, rest, d⟩
theorem stat_mk {C p f : Addr} {m : Str} {rest : List Value} (a : readsIn K C (.type "type") = true) (b : specialIn K (.ref C) "__getattribute__" = some (some (.builtin "type.__getattribute__")))
    (c : findCls K (.ref C) (.type "type") m = some (.get (.builtin "staticmethod.__get__") (.ref p) .none (.ref C))) (d : recIn K p "staticmethod" = some (.ref f :: rest)) (k : keepIn K (.ref f) = true) : Stat K C m f := ⟨a, b, ⟨p, rest, c, d⟩, k⟩
theorem kdct_mk {w : World} {D : Addr} {es : Array DictEntry} {n : Nat} {x : Str} {i : Int} {tk : Tok} (l : K.lookup D = some ⟨.type "dict", none, .dict es n, #[]⟩) (lit : KeysLit w.params es.toList) (e : nsIn K D x = some (some (.int i tk))) : KDct K w D x (.int i) := ⟨es, n, _, l, lit, e, tk, rfl⟩
theorem kitV {D : Addr} {T : String} (m : kitMeta T = true) (s : subIn K (.ref D) (.type T) = some true) : kitOne K (.ref D) (.type T) = some true := by
  refine (if_neg (fun z => Bool.noConfusion (show false = true from z))).trans ?_
  show (if kitMeta T = true then subIn K (.ref D) (.type T) else none) = some true
  rw [if_pos m, s]
end
end GX
namespace K40
open PySem L2 GX
theorem txt_mk {K : PySem.W.Frag} {h : Heap} {mg : Str → Option Value} {C : Addr} (X : K.In h) (G : h.Ns mainGlobals mg) (aC : PySem.W.nsIn K mainGlobals "Torus" = some (some (.ref C)))
    (pg : PySem.W.plainGet K C Str.empty = true) (hd : PySem.W.hasDictIn K C = true) (po : PySem.W.plainOver K C = true) (sa : PySem.W.findIn K (.ref C) "__setattr__" = some (some (.builtin "object.__setattr__")))
    (nW : PySem.W.findIn K (.ref C) "width" = some none) (nH : PySem.W.findIn K (.ref C) "height" = some none) (nT : PySem.W.findIn K (.ref C) "twist" = some none)
    (ty : PySem.W.typeIn K (.ref C) = some (.type "type")) (sT : PySem.W.subIn K (.type "tuple") (.ref C) = some false) (sS : PySem.W.subIn K (.type "str") (.ref C) = some false)
    (nf1 : PySem.W.notFirst K C (.ref C) = true) (nf2 : PySem.W.notFirst K C (.type "tuple") = true) (nf3 : PySem.W.notFirst K C (.type "str") = true)
    (ha : PySem.W.findIn K (.ref C) "__class__" = some (some (.builtin "object.__class__"))) (hn : PySem.W.specialIn K (.builtin "object.__class__") "__get__" = some (some (.builtin "getset_descriptor.__get__"))) (htk : PySem.W.takesIn K (.builtin "object.__class__") = some true) (hm : PySem.W.mroIn K C (.type "object") = some true)
    (z_len : PySem.W.nsIn K mainGlobals "len" = some none) (z_int : PySem.W.nsIn K mainGlobals "int" = some none) (z_str : PySem.W.nsIn K mainGlobals "str" = some none) (z_bool : PySem.W.nsIn K mainGlobals "bool" = some none) (z_list : PySem.W.nsIn K mainGlobals "list" = some none) (z_tuple : PySem.W.nsIn K mainGlobals "tuple" = some none) (z_isinstance : PySem.W.nsIn K mainGlobals "isinstance" = some none) (z_range : PySem.W.nsIn K mainGlobals "range" = some none) (z_zip : PySem.W.nsIn K mainGlobals "zip" = some none) (z_enumerate : PySem.W.nsIn K mainGlobals "enumerate" = some none) (z_all : PySem.W.nsIn K mainGlobals "all" = some none) (z_abs : PySem.W.nsIn K mainGlobals "abs" = some none) (z_max : PySem.W.nsIn K mainGlobals "max" = some none) (z_min : PySem.W.nsIn K mainGlobals "min" = some none) (CB : Addr) : Txt K mg C CB := by
  have cl : Cls K C := ⟨pg, hd, po, sa⟩
  exact { cl := cl, nW := nW, nH := nH, nT := nT, g_Torus := PySem.W.mg_of X G aC, m_len := PySem.W.mg_none_of X G z_len, m_int := PySem.W.mg_none_of X G z_int, m_str := PySem.W.mg_none_of X G z_str, m_bool := PySem.W.mg_none_of X G z_bool, m_list := PySem.W.mg_none_of X G z_list, m_tuple := PySem.W.mg_none_of X G z_tuple, m_isinstance := PySem.W.mg_none_of X G z_isinstance, m_range := PySem.W.mg_none_of X G z_range, m_zip := PySem.W.mg_none_of X G z_zip, m_enumerate := PySem.W.mg_none_of X G z_enumerate, m_all := PySem.W.mg_none_of X G z_all, m_abs := PySem.W.mg_none_of X G z_abs, m_max := PySem.W.mg_none_of X G z_max, m_min := PySem.W.mg_none_of X G z_min, nfT := nf1, nfTup := nf2, nfStr := nf3, isT := if_pos (beq_self_eq_true _), eqTup := kit_any hd ty sT rfl, eqStr := kit_any hd ty sS rfl, ownTy := fun e => .base (.ins e cl ha hn htk hm) }
theorem in_mk {K : PySem.W.Frag} {C f : Addr} {oc : Value} {od an : Option Addr} {osl : Array (Option Value)} {kV doc pm cdv ct : Value} {TD : Addr} {oc2 : Value} {od2 : Option Addr} {tk : Tok} {n : Nat} {sl2 : Array (Option Value)} {h : Heap} (X : K.In h) (aC : PySem.W.nsIn K mainGlobals "Torus" = some (some (.ref C))) (mk : PySem.W.makesIn K C = true) (a : PySem.W.findIn K (.ref C) "__init__" = some (some (.ref f))) (i : PySem.W.isFn K (.ref f) = true) (kc : PySem.W.keepIn K (.ref C) = true)
    (l : K.lookup f = some ⟨oc, od, .func (PySem.W.fnOf "__init__" "Torus.__init__" (defArgs s_Torus___init__) (defBody s_Torus___init__) (defScope s_Torus___init__) (.ref TD) kV doc pm an cdv ct), osl⟩) (c : PySem.W.codeIn K cdv "Torus.__init__" = true) (k : PySem.W.keepIn K (.ref f) = true)
    (lT : K.lookup TD = some ⟨oc2, od2, .seq #[.int 0 tk] n, sl2⟩) : Mk K C f ∧ ∃ fd, InitD K f fd := ⟨⟨mk, a, i, kc⟩, initD_mk l c k lT⟩
theorem te_mk {P : Program} {w : World} {K : PySem.W.Frag} {h : Heap} {mg : Str → Option Value} {CB fB D : Addr} {es : Array DictEntry} {n : Nat} {tk : Tok} (X : K.In h) (G : h.Ns mainGlobals mg) (z : Exs P K mg "ValueError" "ValueError.__new__" "ValueError.__init__" [.type "ValueError", .type "Exception", .type "BaseException", .type "object"] CB fB "at" ∧ ExR K mg "BadTorus" CB)
    (aD : PySem.W.nsIn K mainGlobals "BOUNDS" = some (some (.ref D))) (l : K.lookup D = some ⟨.type "dict", none, .dict es n, #[]⟩) (lit : PySem.W.KeysLit w.params es.toList) (e : PySem.W.nsIn K D "text" = some (some (.int 60000 tk))) : TxtE P w K mg CB fB D := ⟨z.1, z.2, PySem.W.mg_of X G aD, kdct_mk l lit e⟩
end K40
/-! part H40 -/
set_option Elab.async false
set_option maxRecDepth 100000
open PySem PySem.W PyProof.Rows
set_option maxHeartbeats 0 in
open_top head40 for PySem.Challenge.rw_goesround_k40_tori_read_and_told
/-! part END40 -/
set_option Elab.async false
set_option maxRecDepth 100000
open PySem PySem.W PyProof.Rows
namespace K40
open L2 GX
abbrev sBad : Stmt := inClass (top 10) 0
end K40
set_option maxHeartbeats 0 in
theorem PySem.Challenge.cw_goesround_k40_tori_read_and_told_holds : PySem.Challenge.rw_goesround_k40_tori_read_and_told.Holds := by
  refine head40 ?_
  k_fill
  refine L2.walk_of (l := PySem.Challenge.rw_goesround_k40_tori_read_and_told) (n := 63) (k := 6) (x := "script") (CX := fun _ => L2.CX0) (sp := fun w => K40.spLaw _) rfl (by decide) rfl ⟨rfl, by decide, by decide⟩ (fun w h Y => PySem.W.kIn_of Y) ?F (fun _ _ a ns _ _ hS => ⟨a, ns, rfl, hS, fun _ => rfl⟩) (fun _ _ _ _ _ z => z)
  case F =>
    intro w mg fa h KX G hmg
    have zB := GX.exs_mk (prog := PySem.Challenge.rw_goesround_k40_tori_read_and_told.prog) (B := "ValueError") (newId := "ValueError.__new__") (initId := "ValueError.__init__") (bmB := [.type "ValueError", .type "Exception", .type "BaseException", .type "object"]) (f := "at") (x := "BadTorus") (st := K40.sBad) KX G (by k_is) (by k_is) (by k_is) (by k_is) (by k_is) (by k_is) (by k_is) (by kx_is) (by kx_is) (by k_is) (by k_is) (by k_is) (by k_is) (by ks_is) (by k_is) (by k_is) (by k_is)
      (by k_is) (by k_is) (by k_is) rfl (by decide +kernel) (by rfl) (by decide +kernel) (by decide) (by decide) (by rfl) rfl (fun us hl => match us, hl with | [_, _], _ => rfl) (by decide +kernel) (by decide +kernel) (by decide +kernel) (by decide +kernel) (by decide +kernel) rfl rfl rfl _ (fun env => by rfl)
    have d_is_number_word := GX.def_mk (x := "is_number_word") (st := K40.s_is_number_word) KX G (by k_is) (by k_is) (by k_is) (by k_is)
    have d_law_bag := GX.def_mk (x := "_law_bag") (st := K40.s_law_bag) KX G (by k_is) (by k_is) (by k_is) (by k_is)
    have d_law_draw := GX.def_mk (x := "_law_draw") (st := K40.s_law_draw) KX G (by k_is) (by k_is) (by k_is) (by k_is)
    have d_law_of := GX.def_mk (x := "_law_of") (st := K40.s_law_of) KX G (by k_is) (by k_is) (by k_is) (by k_is)
    have d_law_like := GX.def_mk (x := "_law_like") (st := K40.s_law_like) KX G (by k_is) (by k_is) (by k_is) (by k_is)
    have d_law_site := GX.def_mk (x := "_law_site") (st := K40.s_law_site) KX G (by k_is) (by k_is) (by k_is) (by k_is)
    have d_law_sites := GX.def_mk (x := "_law_sites") (st := K40.s_law_sites) KX G (by k_is) (by k_is) (by k_is) (by k_is)
    have d_law_size := GX.def_mk (x := "_law_size") (st := K40.s_law_size) KX G (by k_is) (by k_is) (by k_is) (by k_is)
    have d_law_fault := GX.def_mk (x := "_law_fault") (st := K40.s_law_fault) KX G (by k_is) (by k_is) (by k_is) (by k_is)
    have d_law_called := GX.def_mk (x := "_law_called") (st := K40.s_law_called) KX G (by k_is) (by k_is) (by k_is) (by k_is)
    have d_law_read := GX.def_mk (x := "_law_read") (st := K40.s_law_read) KX G (by k_is) (by k_is) (by k_is) (by k_is)
    have d_law_plain := GX.def_mk (x := "_law_plain") (st := K40.s_law_plain) KX G (by k_is) (by k_is) (by k_is) (by k_is)
    have d_law_range := GX.def_mk (x := "_law_range") (st := K40.s_law_range) KX G (by k_is) (by k_is) (by k_is) (by k_is)
    have d_law_due := GX.def_mk (x := "_law_due") (st := K40.s_law_due) KX G (by k_is) (by k_is) (by k_is) (by k_is)
    have d_law_ring_so := GX.def_mk (x := "_law_ring_so") (st := K40.s_law_ring_so) KX G (by k_is) (by k_is) (by k_is) (by k_is)
    have d_law_made_so := GX.def_mk (x := "_law_made_so") (st := K40.s_law_made_so) KX G (by k_is) (by k_is) (by k_is) (by k_is)
    have d_law_bent_so := GX.def_mk (x := "_law_bent_so") (st := K40.s_law_bent_so) KX G (by k_is) (by k_is) (by k_is) (by k_is)
    have d_law_words := GX.def_mk (x := "_law_words") (st := K40.s_law_words) KX G (by k_is) (by k_is) (by k_is) (by k_is)
    have d_law := GX.def_mk (x := "law") (st := K40.s_law) KX G (by k_is) (by k_is) (by k_is) (by k_is)
    have T := K40.txt_mk KX G (by k_is) (by k_is) (by k_is) (by k_is) (by k_is) (by k_is) (by k_is) (by k_is) (by k_is) (by k_is) (by k_is) (by k_is) (by k_is) (by k_is) (by k_is) (by k_is) (by k_is) (by k_is) (by k_is) (by k_is) (by k_is) (by k_is) (by k_is) (by k_is) (by k_is) (by k_is) (by k_is) (by k_is) (by k_is) (by k_is) (by k_is) (by k_is)
    have xk := GX.exk_mk' (x := "BadTorus") (f := "at") (B := "ValueError") KX (by k_is) (by k_is) (by k_is) (by k_is) (by k_is) (by k_is) (by k_is) (by k_is) (by k_is) (by k_is) (by k_is) (by decide +kernel) (by k_is)
    have mW := GX.mt_mk (x := "Torus") (m := "written") (qual := "Torus.written") (st := K40.s_Torus_written) KX (by k_is) (by k_is) (by k_is) (by k_is) (by k_is) (by k_is)
    have mC := GX.mt_mk (x := "Torus") (m := "closes") (qual := "Torus.closes") (st := K40.s_Torus_closes) KX (by k_is) (by k_is) (by k_is) (by k_is) (by k_is) (by k_is)
    have mE := GX.mt_mk (x := "Torus") (m := "__eq__") (qual := "Torus.__eq__") (st := K40.s_Torus___eq__) KX (by k_is) (by k_is) (by k_is) (by k_is) (by k_is) (by k_is)
    have pS := GX.pr_mk (x := "Torus") (m := "sites") (qual := "Torus.sites") (st := K40.s_Torus_sites) KX (by k_is) (by k_is) (by k_is) (by k_is) (by k_is) (by k_is) (by k_is) (by k_is)
    have pX := GX.pr_mk (x := "Torus") (m := "text") (qual := "Torus.text") (st := K40.s_Torus_text) KX (by k_is) (by k_is) (by k_is) (by k_is) (by k_is) (by k_is) (by k_is) (by k_is)
    have sR := GX.st_mk (x := "Torus") (m := "read") (qual := "Torus.read") (st := K40.s_Torus_read) KX (by k_is) (by k_is) (by k_is) (by k_is) (by k_is) (by k_is) (by k_is) (by k_is)
    have iN := K40.in_mk KX (by k_is) (by k_is) (by k_is) (by k_is) (by k_is) (by k_is) (by k_is) (by k_is) (by k_is)
    have qM := GX.cls_mk (x := "Malformed") (y := "BadTorus") KX G (by k_is) (by k_is) (by k_is) (by k_is) (by k_is) (by k_is)
    have q0 := GX.cls_mk (x := "BadNumber") (y := "BadTorus") KX G (by k_is) (by k_is) (by k_is) (by k_is) (by k_is) (by k_is)
    have q1 := GX.cls_mk (x := "BadSum") (y := "BadTorus") KX G (by k_is) (by k_is) (by k_is) (by k_is) (by k_is) (by k_is)
    have q2 := GX.cls_mk (x := "BadTable") (y := "BadTorus") KX G (by k_is) (by k_is) (by k_is) (by k_is) (by k_is) (by k_is)
    have q3 := GX.cls_mk (x := "BadDeed") (y := "BadTorus") KX G (by k_is) (by k_is) (by k_is) (by k_is) (by k_is) (by k_is)
    have q4 := GX.cls_mk (x := "BadBook") (y := "BadTorus") KX G (by k_is) (by k_is) (by k_is) (by k_is) (by k_is) (by k_is)
    have q5 := GX.cls_mk (x := "BadPattern") (y := "BadTorus") KX G (by k_is) (by k_is) (by k_is) (by k_is) (by k_is) (by k_is)
    have q6 := GX.cls_mk (x := "BadName") (y := "BadTorus") KX G (by k_is) (by k_is) (by k_is) (by k_is) (by k_is) (by k_is)
    have q7 := GX.cls_mk (x := "BadGate") (y := "BadTorus") KX G (by k_is) (by k_is) (by k_is) (by k_is) (by k_is) (by k_is)
    have q8 := GX.cls_mk (x := "BadRule") (y := "BadTorus") KX G (by k_is) (by k_is) (by k_is) (by k_is) (by k_is) (by k_is)
    have q9 := GX.cls_mk (x := "BadCharge") (y := "BadTorus") KX G (by k_is) (by k_is) (by k_is) (by k_is) (by k_is) (by k_is)
    have q10 := GX.cls_mk (x := "BadScript") (y := "BadTorus") KX G (by k_is) (by k_is) (by k_is) (by k_is) (by k_is) (by k_is)
    have q11 := GX.cls_mk (x := "NoSuch") (y := "BadTorus") KX G (by k_is) (by k_is) (by k_is) (by k_is) (by k_is) (by k_is)
    have q12 := GX.cls_mk (x := "Ended") (y := "BadTorus") KX G (by k_is) (by k_is) (by k_is) (by k_is) (by k_is) (by k_is)
    have q13 := GX.cls_mk (x := "TooMany") (y := "BadTorus") KX G (by k_is) (by k_is) (by k_is) (by k_is) (by k_is) (by k_is)
    have q14 := GX.cls_mk (x := "Unlike") (y := "BadTorus") KX G (by k_is) (by k_is) (by k_is) (by k_is) (by k_is) (by k_is)
    have q15 := GX.cls_mk (x := "Refused") (y := "BadTorus") KX G (by k_is) (by k_is) (by k_is) (by k_is) (by k_is) (by k_is)
    have TE := K40.te_mk (w := w) KX G zB (by k_is) (by k_is) (by repeat (first | exact True.intro | refine ⟨⟨_, _, rfl, rfl⟩, ?_⟩)) (by k_is)
    have vE := (show mg "ValueError" = none from PySem.W.mg_none_of KX G (by k_is))
    obtain ⟨fdI, FI⟩ := iN.2
    exact K40.all_mk hmg (T _) TE xk.1 xk.2.1 xk.2.2.1 vE xk.2.2.2 qM q0 q1 q2 q3 q4 q5 q6 q7 q8 q9 q10 q11 q12 q13 q14 q15 iN.1 FI sR.1 sR.2 pS.1 pS.2 pX.1 pX.2 mW.1 mW.2.1 mW.2.2 mC.1 mC.2.1 mC.2.2 mE.1 mE.2.1 mE.2.2 d_is_number_word d_law_bag d_law_draw d_law_of d_law_like d_law_site d_law_sites d_law_size d_law_fault d_law_called d_law_read d_law_plain d_law_range d_law_due d_law_ring_so d_law_made_so d_law_bent_so d_law_words d_law
