import PyProof.Rows.All
import Wide.All
import OpenK.AllK
import Wide.FinOn
import PyProof.EqAt
import PyProof.EqKinds
import PyProof.TupleCall
import KE.KExcSuper
import HandS.ForExc
import HandS.ExcInit
import HandS.ExcSuper
import HandS.HotCalls
import HandS.ExcIs
import HandS.ExcField
import KE.KExcIs
import HandS.ForMost
import HandS.Wide
import HandS.TupAny
import HandS.Star
import HandS.DictComp
import HandS.Flow
import HandS.IsInst
import HandS.MakeKw
import HandS.OwnEq
import HandS.Walk
import PySem.Challenge.RW_modeplaces_k02_wrong_words_anywhere
import HandS.DeepEq
import HandS.Style
import KE.KRevSl
import KE.GoesEnumKw
import KE.GoesMore
import PyProof.Rows.CallKwBuiltin
import PyProof.Rows.CallKw2
import HandS.Strs
import PyProof.StrBlock2
set_option Elab.async false
set_option linter.all false
set_option maxRecDepth 100000
set_option maxHeartbeats 4000000
section
namespace MPX
open PySem PySem.W PySem.Calls PyProof.Rows PySem.Spec
abbrev VEs : List Value := [.type "ValueError", .type "Exception", .type "BaseException", .type "object"]
/-- what the written part says of an own exception class at C whose __init__ (at fI) begins with super().__init__(a text) -/
structure SupC (prog : Program) (K : Frag) (C fI : Addr) (ps : List Str) (body : List Stmt) : Prop where
  cls : ∃ nm q N bs bm sn sub ab col dd k0 k1 k2 k3 k5, K.lookup C = some (excClassObj nm q C N bs bm true sn sub ab col dd k0 k1 k2 k3 k5 "ValueError.__new__") ∧ HandSPX.refsVE bm = true
  sa : findIn K (.ref C) "__setattr__" = some (some (.builtin "object.__setattr__"))
  iC : findIn K (.ref C) "__init__" = some (some (.ref fI))
  tI : typeIn K (.ref fI) = some (.type "function")
  kC : keepIn K (.ref C) = true
  exC : subIn K (.ref C) (.type "BaseException") = some true
  veC : subIn K (.ref C) (.type "ValueError") = some true
  tyC : typeIn K (.ref C) = some (.type "type")
  sup : ks_superIn K C C "__init__" = some (some (.builtin "ValueError.__init__"))
  slf : mroIn K C (.ref C) = some true
  opq : nsIn K cStatics "thirdparty.any" = some none
  top : (prog.main.scope.names.lookup ("super" : Str)).isSome = false
  fn : ∃ (qual : Str) (params : Arguments) (scope : Scope) (oc : Value) (od : Option Addr) (dV kV doc pm ct : Value) (an : Option Addr) (osl : Array (Option Value)) (cda cc : Addr) (ccl cl : Value) (cdd cld : Option Addr) (ccs csl : Array (Option Value)) (vs : Array Value) (file : Str) (tf : Tok) (ar : Arg),
    K.lookup fI = some ⟨oc, od, .func (ksFn "__init__" qual params body scope dV kV doc pm an (.ref cda) ct cc), osl⟩ ∧ codeIn K (.ref cda) qual = true ∧
    K.lookup cda = some ⟨ccl, cdd, .fields vs, ccs⟩ ∧ vs[2]? = some (.str file tf) ∧ ((prog.main.file : Str) == file) = true ∧ K.lookup cc = some ⟨cl, cld, .cell (some (.ref C)), csl⟩ ∧
    (params.posonlyargs ++ params.args).head? = some ar ∧ ar.arg = "self" ∧ (∀ us : List Value, us.length = ps.length → bindArgs (ksFn "__init__" qual params body scope dV kV doc pm an (.ref cda) ct cc) ⟨us, []⟩ = pure (ps.zip us)) ∧
    scope.names.lookup ("super" : Str) = some .globalImplicit ∧ scope.names.lookup ("__class__" : Str) = some .free ∧ (∀ y ∈ ps, scope.names.lookup y = some .local) ∧ (∀ x ∈ scope.names, x.2 ≠ .cell) ∧ scope.isCoroutine = false ∧ scope.isGenerator = false ∧ scope.kind = .function
/-- what the module's own names are, over some heap -/
structure ModIn (h : Heap) (mg : Str → Option Value) : Prop where
  glob : h.Ns mainGlobals mg
  blt : ∃ mb, h.Ns builtinsNs mb ∧ ∀ x : Str, x ≠ "__name__" → mb x = bootBuiltins x
  nolimit : h.NoLimit
section
variable {prog : Program} {w : World} {A : Around} {E : Value → Shared → Prop} {h : Heap} {g : Array GenState} {d : Drawn} {t : Nat} {os : OsState}
variable {nm q : Str} {C N : Addr} {bs bm : List Value} {sn : List Str} {sub : List Value} {ab : Bool} {col : Option Bool} {dd : Option Addr} {k0 k1 k2 k3 k5 : Option Value}
theorem sup_call {u e t0 : Addr} {rest : List Value} {Q : Value → Shared → Prop}
    (hC : h.get? C = some (excClassObj nm q C N bs bm true sn sub ab col dd k0 k1 k2 k3 k5 "ValueError.__new__")) (he : h.get? e = some (HandSPX.excO C t0)) (hu : h.get? u = some (kxs_mw "ValueError.__init__" e)) (hrest : rest.length ≤ sizeLine)
    (hq : ∀ h' t1, (∀ b o, b ≠ e → h.get? b = some o → h'.get? b = some o) → h'.get? e = some (HandSPX.excO C t1) → Q .none ⟨h', g, d, t, os⟩) :
    wpAny (model prog w) A (call (.ref u) rest) Q E ⟨h, g, d, t, os⟩ := by
  refine wpAny_call (codeAny_of_tree ?_)
  show wpAny _ A.in1 (callAny (.ref u) ⟨rest, []⟩) _ _ _
  simp only [callAny]
  refine wpAny_bind (wpAny_load hu ?_)
  simp only [kxs_mw, show (Value.type "method-wrapper" == Value.type "method" || Value.type "method-wrapper" == Value.type "builtin_function_or_method" || Value.type "method-wrapper" == Value.type "method-wrapper") = true by decide, if_true]
  refine KFB.if_so (by decide) ?_
  refine wpAny_bind (check_bound_init F.excBase_ValueError.toExcCallFacts hC he rfl ?_)
  refine wpAny_bind (wpAny_pure (wpAny_pure ?_))
  refine ⟨plainId_quiet F.excBase_ValueError.init.plain _, codeAny_builtin F.excBase_ValueError.initEntry ?_⟩
  exact exc_init_tree (cls := .ref C) (t0 := t0) (dv := none) (c2 := .none) (c3 := .none) (b4 := .bool false) he hrest fun h' k e' _ => hq h' _ k e'
end
/-- how super().__init__(m) is evaluated (by rfl where it stands) -/
def SupEv (m : Str) (j : Nat) (p0 p1 p2 p3 p4 : Pos) : Prop := ∀ env, ∃ pl, eval (.Call (.Attribute (.Call (.Name "super" p0) [] [] p1) "__init__" p2) [.Constant (.str m) j p3] [] p4) env = (do
  let ov ← attributeBase (.Call (.Name "super" p0) [] [] p1) "__init__" env (eval (.Call (.Name "super" p0) [] [] p1) env)
  standAt p2.atName
  let (f, first) ← holding [ov] (getMethod ov "__init__" pl)
  callWith p4 f first (backTo p4 (starEach [.Constant (.str m) j p3] env)) [])
/-- the first row: super().__init__('..') -/
def supRow (m : Str) (j : Nat) (p0 p1 p2 p3 p4 p5 : Pos) : Stmt := .Expr (.Call (.Attribute (.Call (.Name "super" p0) [] [] p1) "__init__" p2) [.Constant (.str m) j p3] [] p4) p5
section
variable {prog : Program} {w : World} {A : Around} {R : Result → Shared → Prop} {K : Frag} {mg : Str → Option Value} {C fI : Addr} {ps : List Str} {rest : List Stmt} {m : Str} {j : Nat} {p0 p1 p2 p3 p4 p5 : Pos}
/-- __init__ of a fresh exception up to behind its first row -/
theorem sup_head {s : Shared} {x t0 : Addr} {us : List Value} (T : SupC prog K C fI ps (supRow m j p0 p1 p2 p3 p4 p5 :: rest)) (X : K.In s.heap) (G : ModIn s.heap mg) (hsup : mg "super" = none)
    (hev : SupEv m j p0 p1 p2 p3 p4)
    (hx : s.heap.get? x = some (HandSPX.excO C t0)) (hnx : K.lookup x = none) (hroom : A.depth < recursionLimit) (hlen : (Value.ref x :: us).length = ps.length) (hps : ps.head? = some ("self" : Str)) (hnd : ps.Nodup)
    (hq : ∀ (env : Env) h1 t1 tk, (∀ b o, b ≠ x → s.heap.get? b = some o → h1.get? b = some o) → h1.get? x = some (HandSPX.excO C t1) → K.In h1 → h1.Ns env.locals (fun y => (ps.zip (Value.ref x :: us)).reverse.lookup y) → (env.frame = some env.locals) → x < env.locals →
      env.scope.kind = .function → (∀ y ∈ ps, env.kindOf y = some .local) → s.heap.objs.size ≤ env.locals →
      wpAny (model prog w) (A.deeper env) (execs rest env) (fun f s' => R (.ok (.ret (match f with | .ret v => v | _ => .none))) s') (fun e s' => wpAny (model prog w) (A.deeper env) (leaving env e) (fun _ s'' => R (.error e) s'') (fun e' s'' => R (.error e') s'') s') { s with heap := h1, toks := tk }) :
    codeAny (model prog w) A (.call (.ref fI) ⟨.ref x :: us, []⟩) R s := by
  obtain ⟨nm, q, N, bs, bm, sn, sub, ab, col, dd, k0, k1, k2, k3, k5, hC, hbm⟩ := T.cls
  obtain ⟨qual, params, scope, oc, od, dV, kV, doc, pm, ct, an, osl, cda, cc, ccl, cl, cdd, cld, ccs, csl, vs, file, tf, ar, ho, hcd, hcode, hvs, hfile, hcell, hp, har, hbind, hks, hkc, hka, hnc, hco, hgen, hk⟩ := T.fn
  have hcl : clsIn K C = some { name := nm, bases := bs, mro := .ref C :: bm, ns := N, qualname := q, hasDict := true, slotNames := sn, subclasses := sub, abstract := ab, collection := col, hasDel := false } := by unfold clsIn; rw [hC] <;> rfl
  have hself : ("self" : Str) ∈ ps := List.mem_of_mem_head? (by rw [hps]; exact rfl)
  refine ks_codeAny_call_defAt (fd := ksFn "__init__" qual params (supRow m j p0 p1 p2 p3 p4 p5 :: rest) scope dV kV doc pm an (.ref cda) ct cc) (body := supRow m j p0 p1 p2 p3 p4 p5 :: rest) (binds := ps.zip (.ref x :: us)) hroom (X _ _ ho) rfl G.nolimit (codeRec_of X hcd) rfl (BindsTo.of_eq (hbind _ hlen)) hnc
    (fun y hy => hka y.1 (List.of_mem_zip hy).1) (fun h₁ hns hk₁ => ?_) hco hgen hk
  have X₁ : K.In h₁ := X.keeps hk₁
  have hx₁ := hk₁ _ _ hx
  have I₁ : InstAt h₁ x (HandSPX.excO C t0) C none := ⟨hx₁, rfl, rfl, trivial⟩
  have hxC : x ≠ C := ks_ne X₁ I₁ hcl
  obtain ⟨mb, hb1, hb2⟩ := G.blt
  have hvself : ((ps.zip (Value.ref x :: us)).reverse.lookup ("self" : Str)) = some (.ref x) := by
    cases ps with
    | nil => cases hps
    | cons a r =>
      cases hps
      have hnot : ∀ l : List (Str × Value), ("self" : Str) ∉ l.map (·.1) → (l ++ [(("self" : Str), Value.ref x)]).lookup ("self" : Str) = some (.ref x) := by
        intro l
        induction l with
        | nil => intro _; simp [List.lookup]
        | cons p l ih =>
          intro hn
          have h1 : ("self" : Str) ≠ p.1 := fun z => hn (by rw [z]; exact List.mem_cons_self ..)
          have h2 : (("self" : Str) == p.1) = false := by simpa using h1
          have := ih (fun z => hn (List.mem_cons_of_mem _ z))
          rw [List.cons_append]
          obtain ⟨pa, pb⟩ := p
          simp only [List.lookup]
          rw [h2]
          exact this
      rw [List.zip_cons_cons, List.reverse_cons]
      refine hnot _ fun z => ?_
      rw [List.map_reverse, List.mem_reverse] at z
      obtain ⟨p, hp1, hp2⟩ := List.mem_map.mp z
      have := (List.of_mem_zip hp1).1
      rw [hp2] at this
      exact (List.nodup_cons.mp hnd).1 this
  obtain ⟨pl, hev⟩ := hev (ksEnv qual scope s.heap.objs.size fI (.ref cda) cc)
  have hint : interactive (ksEnv qual scope s.heap.objs.size fI (.ref cda) cc) = false := by
    show (scope.kind == .module && _) = false
    rw [hk]
    rfl
  refine ks_wpAt_execs_cons (ks_wpAt_Expr_any (hi := hint) (ks_wpAt_MethodCall (pl := pl) ?_ hev))
  refine ks_wpAt_super_base (env := ksEnv qual scope s.heap.objs.size fI (.ref cda) cc) hks hkc rfl rfl (X₁ _ _ ho) rfl hp rfl (X₁ _ _ hcode) (oc := ⟨ccl, cdd, .fields vs, ccs⟩) rfl hvs hfile T.top ?_
  refine ks_loadName_global hk hks (loadGlobal_builtin (env := ksEnv qual scope s.heap.objs.size fI (.ref cda) cc) (G.glob.keeps hk₁) hsup (hb1.keeps hk₁) ((hb2 _ (by decide +kernel)).trans (show bootBuiltins "super" = some (.type "super") by decide +kernel)) ⟨rfl, ?_⟩)
  refine wpAny_loadName_free hk hkc rfl ⟨_, X₁ _ _ hcell, rfl⟩ ?_
  rw [har]
  refine wpAny_loadName_local hk (hka _ hself) hns hvself ?_
  refine ks_wpAny_isType_cls (X₁ _ _ hC) rfl ⟨rfl, ?_⟩
  refine ks_wpAny_call_super (X₁ _ _ hC) rfl hx₁ rfl (fun c e => by cases e) (looks_mroIn X₁ T.slf) (fun h₂ hso k₂ => ?_)
  have X₂ : K.In h₂ := X₁.keeps k₂
  have hx₂ := k₂ _ _ hx₁
  have I₂ : InstAt h₂ x (HandSPX.excO C t0) C none := ⟨hx₂, rfl, rfl, trivial⟩
  have hm := T.sup
  unfold ks_superIn at hm
  rw [hcl] at hm
  refine kxs_getMethod kxs_ValueError hso (looks_opaque X₂ T.opq) (l₀ := .ref C :: bm) (fun A Q E s k q => wpAny_bind ((looks_clsIn X₂ hcl) A _ E s k (wpAny_pure q))) rfl X₂ hm (I₂.type.andThen (looks_subIn X₂ T.veC)) hxC rfl ?_
  refine kxs_callWith (i := "ValueError.__init__") (x := x) rfl (evalArgs_plain ?_)
  refine Calls.spliced_cons ?_
  show wpAny _ _ (eval (.Constant (.str m) j p3) _) _ _ _
  refine Calls.Constant_str (Calls.spliced_nil ?_)
  have hnew : ∀ b o, h₂.get? b = some o → (h₂.push (kxs_mw "ValueError.__init__" x)).get? b = some o := fun b o e => Heap.get?_push_of_some _ e
  refine ⟨Heap.get?_push_at rfl rfl, ?_⟩
  refine sup_call (t0 := t0) (hnew _ _ (X₂ _ _ hC)) (hnew _ _ hx₂) (Heap.get?_push_at rfl rfl) (by show 1 ≤ sizeLine; decide) fun h₃ t1 k₃ hx₃ => ?_
  have k03 : ∀ b o, b ≠ x → s.heap.get? b = some o → h₃.get? b = some o := fun b o hb e => k₃ b o hb (hnew _ _ (k₂ _ _ (hk₁ _ _ e)))
  have X₃ : K.In h₃ := fun b o e => k₃ b o (fun z => by rw [z, hnx] at e; cases e) (hnew _ _ (X₂ _ _ e))
  have hxL : x < s.heap.objs.size := Heap.lt_size hx
  refine ks_wpAt_mono (wpAt_of_wpAny (hq (ksEnv qual scope s.heap.objs.size fI (.ref cda) cc) h₃ t1 _ k03 hx₃ X₃ ?_ rfl hxL hk (fun y hy => hka y hy) (Nat.le_refl _))) (fun _ _ z => z) fun _ _ z => z
  exact hns.at fun o e => k₃ _ _ (Nat.ne_of_gt hxL) (hnew _ _ (k₂ _ _ e))
def OwnD (h h' : Heap) (e : Addr) (d : Option Addr) (m : Str → Option Value) : Prop := match d with
  | none => True
  | some dx => h.objs.size ≤ dx ∧ dx ≠ e ∧ h'.Ns1 dx m
/-- what a made exception leaves: at e, its dict (if it has fields) at d -/
structure Made (h h' : Heap) (e C : Addr) (d : Option Addr) (m : Str → Option Value) : Prop where
  keep : ∀ b o, h.get? b = some o → h'.get? b = some o
  new : h.objs.size ≤ e
  obj : ∃ t1 : Addr, h'.get? e = some { cls := .ref C, dict := d, data := .fields #[.ref t1, .none, .none, .none, .bool false, .none] }
  own : OwnD h h' e d m
/-- a row self.f = y of such an __init__ -/
def stRow (f y : Str) (q0 q1 q2 q3 : Pos) : Stmt := .Assign [.Attribute (.Name "self" q0) f q1] (.Name y q2) q3
theorem sup_made {s : Shared} {us : List Value} (T : SupC prog K C fI ps (supRow m j p0 p1 p2 p3 p4 p5 :: rest)) (X : K.In s.heap) (G : ModIn s.heap mg) (hsup : mg "super" = none)
    (hev : SupEv m j p0 p1 p2 p3 p4)
    (hroom : A.depth + 1 < recursionLimit) (hlen : us.length + 1 = ps.length) (hz : us.length ≤ 8) (hps : ps.head? = some ("self" : Str)) (hnd : ps.Nodup)
    (hq : ∀ (x : Addr) (B : Around) (env : Env) (h0 h1 : Heap) t1 tk (R' : Result → Shared → Prop), (∀ b o, s.heap.get? b = some o → h1.get? b = some o) → s.heap.objs.size ≤ x → h1.get? x = some (HandSPX.excO C t1) → K.In h1 → h1.Ns env.locals (fun y => (ps.zip (Value.ref x :: us)).reverse.lookup y) → x < env.locals →
      env.scope.kind = .function → (∀ y ∈ ps, env.kindOf y = some .local) → K.lookup x = none →
      (∀ h' tk' d mm, (∀ b o, s.heap.get? b = some o → h'.get? b = some o) → (∃ t2 : Addr, h'.get? x = some { cls := .ref C, dict := d, data := .fields #[.ref t2, .none, .none, .none, .bool false, .none] }) → OwnD s.heap h' x d mm →
        (∀ h'' tk'' e, Made s.heap h'' e C d mm → R (.ok (.ret (.ref e))) { s with heap := h'', toks := tk'' }) → R' (.ok (.ret .none)) { s with heap := h', toks := tk' }) →
      wpAny (model prog w) B (execs rest env) (fun f s' => R' (.ok (.ret (match f with | .ret v => v | _ => .none))) s') (fun e s' => wpAny (model prog w) B (leaving env e) (fun _ s'' => R' (.error e) s'') (fun e' s'' => R' (.error e') s'') s') { s with heap := h1, toks := tk }) :
    codeAny (model prog w) A (.call (.ref C) ⟨us, []⟩) R s := by
  obtain ⟨nm, q, N, bs, bm, sn, sub, ab, col, dd, k0, k1, k2, k3, k5, hC, hbm⟩ := T.cls
  obtain ⟨hp, g, dr, tk, os⟩ := s
  have k : ∀ b o, hp.get? b = some o → ((hp.push (kdv_tup us)).push (HandSPX.excO C hp.objs.size)).get? b = some o := fun b o e => Heap.get?_push_of_some _ (Heap.get?_push_of_some _ e)
  have hget : ((hp.push (kdv_tup us)).push (HandSPX.excO C hp.objs.size)).get? (hp.objs.size + 1) = some (HandSPX.excO C hp.objs.size) := by heap_get
  have hnx : K.lookup (hp.objs.size + 1) = none := by
    cases e : K.lookup (hp.objs.size + 1) with
    | none => rfl
    | some o =>
      have z : hp.get? (hp.objs.size + 1) = some o := X _ _ e
      exact absurd (Nat.lt_of_succ_lt (Heap.lt_size z)) (Nat.lt_irrefl _)
  have hus : us.length ≤ sizeLine := Nat.le_trans hz (by decide)
  refine HandSPX.call_own F.excBase_ValueError (fun Y => HandSPX.refsVE_contains Y bm hbm) (X _ _ hC) (looks_findIn X T.iC) (fun self => bind_fn X self T.tI) hus ?_
  have G' : ModIn ((hp.push (kdv_tup us)).push (HandSPX.excO C hp.objs.size)) mg := by
    obtain ⟨mb, b1, b2⟩ := G.blt
    exact ⟨G.glob.keeps k, ⟨mb, b1.keeps k, b2⟩, G.nolimit.keeps k⟩
  refine sup_head (s := ⟨(hp.push (kdv_tup us)).push (HandSPX.excO C hp.objs.size), g, dr, tk, os⟩) T (X.keeps k) G' hsup hev hget hnx ?_ (by simpa using hlen) hps hnd (fun env h1 t1 tk1 k1 hx1 X1 n1 f1 l1 e1 e2 s1 => ?_)
  · show A.depth + 1 < recursionLimit
    exact hroom
  · have old : ∀ b o, hp.get? b = some o → h1.get? b = some o := fun b o e => k1 b o (Nat.ne_of_lt (Nat.lt_succ_of_lt (Heap.lt_size e))) (k b o e)
    refine hq (hp.objs.size + 1) _ env hp h1 t1 tk1 (InitBack (hp.objs.size + 1) R) old (Nat.le_succ _) hx1 X1 n1 l1 e1 e2 hnx (fun h' tk' d mm ko ho hd hR => ?_)
    refine ⟨rfl, hR h' tk' (hp.objs.size + 1) ⟨ko, Nat.le_succ _, ho, ?_⟩⟩
    exact hd
section
variable {q0 q1 q2 q3 r0 r1 r2 r3 : Pos} {f1 f2 y1 y2 : Str}
theorem lookup2 {a : Str} {x v : Value} (h : a ≠ "self") : (([("self", a)].map (·.1)).zip [x]).length = 1 := rfl
/-- C() -/
theorem made0 {s : Shared} (T : SupC prog K C fI ["self"] [supRow m j p0 p1 p2 p3 p4 p5]) (X : K.In s.heap) (G : ModIn s.heap mg) (hsup : mg "super" = none)
    (hev : SupEv m j p0 p1 p2 p3 p4)
    (hroom : A.depth + 1 < recursionLimit) (hR : ∀ h' tk' e, Made s.heap h' e C none (fun _ => none) → R (.ok (.ret (.ref e))) { s with heap := h', toks := tk' }) : codeAny (model prog w) A (.call (.ref C) ⟨[], []⟩) R s := by
  refine sup_made (us := []) T X G hsup hev hroom rfl (by decide) rfl (by decide +kernel) (fun x B env h0 h1 t1 tk R' ko hs hx X1 n1 l1 e1 e2 hnx hq => ?_)
  exact wpAny_execs_nil (hq h1 tk none (fun _ => none) ko ⟨t1, hx⟩ True.intro hR)
/-- C(v) -/
theorem made1 {s : Shared} {v : Value} (T : SupC prog K C fI ["self", y1] [supRow m j p0 p1 p2 p3 p4 p5, stRow f1 y1 q0 q1 q2 q3]) (X : K.In s.heap) (G : ModIn s.heap mg) (hsup : mg "super" = none)
    (hev : SupEv m j p0 p1 p2 p3 p4)
    (hn1 : findIn K (.ref C) f1 = some none) (hy : ("self" : Str) ≠ y1) (hd1 : (y1 == ("__debug__" : Str)) = false)
    (hroom : A.depth + 1 < recursionLimit) (hR : ∀ h' tk' e d, Made s.heap h' e C (some d) (fun y => if y = f1 then some v else none) → R (.ok (.ret (.ref e))) { s with heap := h', toks := tk' }) : codeAny (model prog w) A (.call (.ref C) ⟨[v], []⟩) R s := by
  refine sup_made (us := [v]) T X G hsup hev hroom rfl (by show 1 ≤ 8; decide) rfl (by simpa using hy) (fun x B env h0 h1 t1 tk R' ko hs hx X1 n1 l1 e1 e2 hnx hq => ?_)
  obtain ⟨nm, q, N, bs, bm, sn, sub, ab, col, dd, k0, k1, k2, k3, k5, hC, hbm⟩ := T.cls
  have hcl : clsIn K C = some { name := nm, bases := bs, mro := .ref C :: bm, ns := N, qualname := q, hasDict := true, slotNames := sn, subclasses := sub, abstract := ab, collection := col, hasDel := false } := by unfold clsIn; rw [hC] <;> rfl
  have v1 : (((["self", y1] : List Str).zip [Value.ref x, v]).reverse.lookup y1) = some v := by simp [List.lookup]
  have v0 : (((["self", y1] : List Str).zip [Value.ref x, v]).reverse.lookup ("self" : Str)) = some (Value.ref x) := by
    have z : (("self" : Str) == y1) = false := by simpa using hy
    simp [List.lookup, z]
  obtain ⟨hp, g, dr, tk0, os⟩ := s
  refine wpAny_execs_cons (plainObj_wpAny_Assign_Attribute ?_ (by rfl))
  refine ESX.ldL n1 v1 (ESX.ldL n1 v0 ?_ e1 (e2 _ (by simp))) e1 (e2 _ (by simp)) hd1
  refine set_plain X1 (ox := HandSPX.excO C t1) (od := none) ⟨hx, rfl, rfl, trivial⟩ T.sa ?_
  refine HandSPX.exc_osa X1 hx hcl (show HandSPX.refsVE (.ref C :: bm) = true from hbm) rfl hn1 (fun h₃ tk₃ dx k₃ dn dne hx₃ hn₃ => ?_)
  refine wpAny_execs_nil (hq h₃ tk₃ (some dx) _ (fun b o e => k₃ b o (Nat.ne_of_lt (Nat.lt_of_lt_of_le (Heap.lt_size e) hs)) (ko b o e)) ⟨t1, hx₃⟩ ⟨?_, dne, hn₃⟩ (fun h'' tk'' e M => hR h'' tk'' e dx M))
  exact Nat.le_trans (Nat.le_of_lt (Nat.lt_of_le_of_lt hs (Heap.lt_size hx))) dn
/-- C(v, z) -/
theorem made2 {s : Shared} {v z : Value} (T : SupC prog K C fI ["self", y1, y2] [supRow m j p0 p1 p2 p3 p4 p5, stRow f1 y1 q0 q1 q2 q3, stRow f2 y2 r0 r1 r2 r3]) (X : K.In s.heap) (G : ModIn s.heap mg) (hsup : mg "super" = none)
    (hev : SupEv m j p0 p1 p2 p3 p4)
    (hn1 : findIn K (.ref C) f1 = some none) (hn2 : findIn K (.ref C) f2 = some none) (hnd : (["self", y1, y2] : List Str).Nodup) (hd1 : (y1 == ("__debug__" : Str)) = false) (hd2 : (y2 == ("__debug__" : Str)) = false)
    (hroom : A.depth + 1 < recursionLimit) (hR : ∀ h' tk' e d, Made s.heap h' e C (some d) (fun y => if y = f2 then some z else if y = f1 then some v else none) → R (.ok (.ret (.ref e))) { s with heap := h', toks := tk' }) : codeAny (model prog w) A (.call (.ref C) ⟨[v, z], []⟩) R s := by
  refine sup_made (us := [v, z]) T X G hsup hev hroom rfl (by show 2 ≤ 8; decide) rfl hnd (fun x B env h0 h1 t1 tk R' ko hs hx X1 n1 l1 e1 e2 hnx hq => ?_)
  obtain ⟨nm, q, N, bs, bm, sn, sub, ab, col, dd, k0, k1, k2, k3, k5, hC, hbm⟩ := T.cls
  have hcl : clsIn K C = some { name := nm, bases := bs, mro := .ref C :: bm, ns := N, qualname := q, hasDict := true, slotNames := sn, subclasses := sub, abstract := ab, collection := col, hasDel := false } := by unfold clsIn; rw [hC] <;> rfl
  obtain ⟨a1, a2⟩ := List.nodup_cons.mp hnd
  obtain ⟨b1, _⟩ := List.nodup_cons.mp a2
  have c1 : (("self" : Str) == y1) = false := by simpa using (fun e => a1 (by rw [e]; simp) : ("self" : Str) ≠ y1)
  have c2 : (("self" : Str) == y2) = false := by simpa using (fun e => a1 (by rw [e]; simp) : ("self" : Str) ≠ y2)
  have c3 : (y1 == y2) = false := by simpa using (fun e => b1 (by rw [e]; simp) : y1 ≠ y2)
  have v2 : (((["self", y1, y2] : List Str).zip [Value.ref x, v, z]).reverse.lookup y2) = some z := by simp [List.lookup]
  have v1 : (((["self", y1, y2] : List Str).zip [Value.ref x, v, z]).reverse.lookup y1) = some v := by simp [List.lookup, c3]
  have v0 : (((["self", y1, y2] : List Str).zip [Value.ref x, v, z]).reverse.lookup ("self" : Str)) = some (Value.ref x) := by simp [List.lookup, c1, c2]
  obtain ⟨hp, g, dr, tk0, os⟩ := s
  refine wpAny_execs_cons (plainObj_wpAny_Assign_Attribute ?_ (by rfl))
  refine ESX.ldL n1 v1 (ESX.ldL n1 v0 ?_ e1 (e2 _ (by simp))) e1 (e2 _ (by simp)) hd1
  refine set_plain X1 (ox := HandSPX.excO C t1) (od := none) ⟨hx, rfl, rfl, trivial⟩ T.sa ?_
  refine HandSPX.exc_osa X1 hx hcl (show HandSPX.refsVE (.ref C :: bm) = true from hbm) rfl hn1 (fun h₃ tk₃ dx k₃ dn dne hx₃ hn₃ => ?_)
  have X3 : K.In h₃ := fun b o e => k₃ b o (fun y => by rw [y, hnx] at e; cases e) (X1 _ _ e)
  have n3 : h₃.Ns env.locals (fun y => (((["self", y1, y2] : List Str).zip [Value.ref x, v, z]).reverse.lookup y)) := n1.at fun o e => k₃ _ _ (Nat.ne_of_gt l1) e
  have nd1 : hp.objs.size ≤ dx := Nat.le_trans (Nat.le_of_lt (Nat.lt_of_le_of_lt hs (Heap.lt_size hx))) dn
  refine wpAny_execs_cons (plainObj_wpAny_Assign_Attribute ?_ (by rfl))
  refine ESX.ldL n3 v2 (ESX.ldL n3 v0 ?_ e1 (e2 _ (by simp))) e1 (e2 _ (by simp)) hd2
  have w3 : Within (fun y => if y = f1 then some v else none) [f1] := fun y hy => by
    by_cases e : y = f1
    · rw [e]; exact List.mem_cons_self ..
    · exact absurd (by show (if y = f1 then some v else none) = none; rw [if_neg e]) hy
  obtain ⟨oD, _, _, hoD, _, _⟩ := hn₃.count w3
  refine set_plain X3 (ox := { cls := .ref C, dict := some dx, data := .fields #[.ref t1, .none, .none, .none, .bool false, .none] }) (od := some oD) ⟨hx₃, rfl, rfl, hoD⟩ T.sa ?_
  refine OEX.osa_old X3 hx₃ hn₃ w3 (by show 1 ≤ 1000; decide) hcl (show HandSPX.refsVE (.ref C :: bm) = true from hbm) rfl hn2 (fun h₄ tk₄ k₄ hn₄ => ?_)
  refine wpAny_execs_nil (hq h₄ tk₄ (some dx) _ (fun b o e => k₄ b o (Nat.ne_of_lt (Nat.lt_of_lt_of_le (Heap.lt_size e) nd1)) (k₃ b o (Nat.ne_of_lt (Nat.lt_of_lt_of_le (Heap.lt_size e) hs)) (ko b o e))) ⟨t1, k₄ _ _ (Ne.symm dne) hx₃⟩ ⟨nd1, dne, hn₄⟩ (fun h'' tk'' e M => hR h'' tk'' e dx M))
end
end
/-- the classes without, with one, with two fields -/
structure Exc0 (prog : Program) (K : Frag) (mg : Str → Option Value) (x : Str) (C : Addr) : Prop where
  ex : ∃ (fI : Addr) (m : Str) (j : Nat) (p0 p1 p2 p3 p4 p5 : Pos), SupC prog K C fI ["self"] [supRow m j p0 p1 p2 p3 p4 p5] ∧ SupEv m j p0 p1 p2 p3 p4
  gC : mg x = some (.ref C)
  su : mg "super" = none
structure Exc1 (prog : Program) (K : Frag) (mg : Str → Option Value) (x : Str) (C : Addr) (f : Str) : Prop where
  ex : ∃ (fI : Addr) (y m : Str) (j : Nat) (p0 p1 p2 p3 p4 p5 q0 q1 q2 q3 : Pos), SupC prog K C fI ["self", y] [supRow m j p0 p1 p2 p3 p4 p5, stRow f y q0 q1 q2 q3] ∧ SupEv m j p0 p1 p2 p3 p4 ∧ ("self" : Str) ≠ y ∧ (y == ("__debug__" : Str)) = false
  n1 : findIn K (.ref C) f = some none
  gC : mg x = some (.ref C)
  su : mg "super" = none
structure Exc2 (prog : Program) (K : Frag) (mg : Str → Option Value) (x : Str) (C : Addr) (f g : Str) : Prop where
  ex : ∃ (fI : Addr) (y z m : Str) (j : Nat) (p0 p1 p2 p3 p4 p5 q0 q1 q2 q3 r0 r1 r2 r3 : Pos), SupC prog K C fI ["self", y, z] [supRow m j p0 p1 p2 p3 p4 p5, stRow f y q0 q1 q2 q3, stRow g z r0 r1 r2 r3] ∧ SupEv m j p0 p1 p2 p3 p4 ∧ (["self", y, z] : List Str).Nodup ∧ (y == ("__debug__" : Str)) = false ∧ (z == ("__debug__" : Str)) = false
  n1 : findIn K (.ref C) f = some none
  n2 : findIn K (.ref C) g = some none
  gC : mg x = some (.ref C)
  su : mg "super" = none
end MPX
namespace L2
open PySem PySem.Spec PyProof.Rows MPX
section
variable {X : Cx} {C : Addr} {x f g : Str} {p pos : Pos} {k : Nat}
theorem Inv.modIn {pins : List (Addr × Obj)} {σ : St} {H : Hp} {s : Shared} (I : Inv X pins σ H s) : ModIn s.heap X.mg := by
  obtain ⟨mb, b1, b2⟩ := I.mod.blt
  exact ⟨I.mod.glob.keeps I.bk, ⟨mb, b1.keeps I.bk, b2⟩, I.nolimit⟩
/-- the made exception, without a dict -/
theorem made_mkp0 {pins : List (Addr × Obj)} {σ : St} {H : Hp} {Q : XK} {hp h' : Heap} {ge : Array GenState} {dr : Drawn} {tk tk' : Nat} {os : OsState} {e : Addr} {m : Str → Option Value} (I : Inv X pins σ H ⟨hp, ge, dr, tk, os⟩) (r : Raises X (.ref C)) (M : Made hp h' e C none m) (q : Q (.ref C) none H) :
    MkP X pins σ Q (.ref e) ⟨h', ge, dr, tk', os⟩ := by
  obtain ⟨t1, hoe⟩ := M.obj
  obtain ⟨G, g1, g2⟩ := restrict h' fun b => decide (b ≠ e)
  have gk : ∀ b, b ≠ e → G.get? b = h'.get? b := fun b hb => g1 b (decide_eq_true hb)
  have gn : G.get? e = none := g2 e (by simp)
  have old : ∀ b o, hp.get? b = some o → G.get? b = some o := fun b o z => (gk b (Nat.ne_of_lt (Nat.lt_of_lt_of_le (Heap.lt_size z) M.new))).trans (M.keep b o z)
  have J : Inv X pins σ H ⟨G, ge, dr, tk', os⟩ := I.kept old
  have up : ∀ b o, G.get? b = some o → h'.get? b = some o := fun b o z => by
    by_cases hb : b = e
    · rw [hb, gn] at z; cases z
    · exact (gk b hb).symm.trans z
  exact ⟨e, _, _, ⟨G, ge, dr, tk', os⟩, H, .ref C, none, rfl, J, up, gn, hoe, ⟨rfl, rfl⟩, rfl, rfl, I.hok.fresh M.new, rfl, I.bare, r, q⟩
theorem made_mkp1 {pins : List (Addr × Obj)} {σ : St} {H : Hp} {Q : XK} {hp h' : Heap} {ge : Array GenState} {dr : Drawn} {tk tk' : Nat} {os : OsState} {e d : Addr} {m : Str → Option Value} {fs : List (Str × V)} (I : Inv X pins σ H ⟨hp, ge, dr, tk, os⟩) (r : Raises X (.ref C)) (M : Made hp h' e C (some d) m)
    (rel : ∀ y, RelO (fs.lookup y) (m y)) (q : ∀ d, H d = none → Q (.ref C) (some d) (upd H d (.xd fs))) : MkP X pins σ Q (.ref e) ⟨h', ge, dr, tk', os⟩ := by
  obtain ⟨t1, hoe⟩ := M.obj
  obtain ⟨od1, od2, od3⟩ := M.own
  obtain ⟨G, g1, g2⟩ := restrict h' fun b => decide (b ≠ e)
  have gk : ∀ b, b ≠ e → G.get? b = h'.get? b := fun b hb => g1 b (decide_eq_true hb)
  have gn : G.get? e = none := g2 e (by simp)
  have old : ∀ b o, hp.get? b = some o → G.get? b = some o := fun b o z => (gk b (Nat.ne_of_lt (Nat.lt_of_lt_of_le (Heap.lt_size z) M.new))).trans (M.keep b o z)
  have ob : ObjOk X.prog X.w (upd H d (.xd fs)) G d (.xd fs) := ⟨_, od3.at (fun o z => (gk d od2).trans z), rel⟩
  have J : Inv X pins σ (upd H d (.xd fs)) ⟨G, ge, dr, tk', os⟩ := I.laid (t' := tk') old od1 ob
  have up : ∀ b o, G.get? b = some o → h'.get? b = some o := fun b o z => by
    by_cases hb : b = e
    · rw [hb, gn] at z; cases z
    · exact (gk b hb).symm.trans z
  refine ⟨e, _, _, ⟨G, ge, dr, tk', os⟩, _, .ref C, some d, rfl, J, up, gn, hoe, ⟨rfl, rfl⟩, rfl, rfl, ?_, rfl, I.bare, r, q d (I.hok.fresh od1)⟩
  rw [upd_ne (Ne.symm od2)]
  exact I.hok.fresh M.new
theorem sup_raises {prog : Program} {fI : Addr} {ps : List Str} {body : List Stmt} (T : SupC prog X.K C fI ps body) : Raises X (.ref C) := raises_own T.exC T.tyC
def tMk0 (C : Addr) : St → Hp → XK → Prop := fun _ H Q => Q (.ref C) none H
def tMk1 (C : Addr) (f : Str) (ta : TA) : St → Hp → XK → Prop := fun σ H Q => ta σ H fun vs H1 => ∃ v, vs = [v] ∧ ∀ d, H1 d = none → Q (.ref C) (some d) (upd H1 d (.xd [(f, v)]))
def tMk2 (C : Addr) (f g : Str) (ta : TA) : St → Hp → XK → Prop := fun σ H Q => ta σ H fun vs H1 => ∃ v z, vs = [v, z] ∧ ∀ d, H1 d = none → Q (.ref C) (some d) (upd H1 d (.xd [(g, z), (f, v)]))
theorem pmk_x0 (T : Exc0 X.prog X.K X.mg x C) (hr : Room (k + 2) X.A) (hg : Gl X x) (hdb : (x == ("__debug__" : Str)) = false := by decide) : PMk X (.Call (.Name x p) [] [] pos) (tMk0 C) := by
  obtain ⟨fI, m, j, p0, p1, p2, p3, p4, p5, S, ev⟩ := T.ex
  intro pins s σ H Q I h
  refine wpAny_Call_Name_kw (ld_glob I hg T.gC ?_ hdb)
  refine PySem.W.callWith_K0 I.kIn S.kC ?_
  obtain ⟨hp, ge, dr, tk, os⟩ := s
  exact wpAny_call (made0 S I.kIn I.modIn T.su ev (by have := hr.dp; omega) fun h' tk' e M => made_mkp0 I (sup_raises S) M h)
theorem relO_1 {f : Str} {v : V} {u : Value} (r : RelV v u) (y : Str) : RelO (([(f, v)] : List (Str × V)).lookup y) (if y = f then some u else none) := by
  by_cases e : y = f
  · rw [if_pos e, e]
    have q : List.lookup f [(f, v)] = some v := by simp [List.lookup]
    rw [q]
    exact r
  · rw [if_neg e]
    have z : (y == f) = false := by simpa using e
    simp [List.lookup, z, RelO]
theorem relO_2 {f g : Str} {v z : V} {u w : Value} (r : RelV v u) (r2 : RelV z w) (y : Str) : RelO (([(g, z), (f, v)] : List (Str × V)).lookup y) (if y = g then some w else if y = f then some u else none) := by
  by_cases e : y = g
  · rw [if_pos e, e]
    have q : List.lookup g [(g, z), (f, v)] = some z := by simp [List.lookup]
    rw [q]
    exact r2
  · rw [if_neg e]
    have zz : (y == g) = false := by simpa using e
    have q := relO_1 r y (f := f)
    simpa [List.lookup, zz] using q
theorem pmk_x1 {a : Expr} {ta : TA} (T : Exc1 X.prog X.K X.mg x C f) (hr : Room (k + 2) X.A) (ha : PA X [a] ta) (hg : Gl X x) (hdb : (x == ("__debug__" : Str)) = false := by decide)
    (he : starEach (a :: []) X.env = (false, eval a X.env) :: starEach [] X.env := by rfl) (hpl : (backTo pos (starEach [] X.env)).any (·.1) = false := by rfl) : PMk X (.Call (.Name x p) [a] [] pos) (tMk1 C f ta) := by
  obtain ⟨fI, y, m, j, p0, p1, p2, p3, p4, p5, q0, q1, q2, q3, S, ev, n, nd⟩ := T.ex
  intro pins s σ H Q I h
  refine wpAny_Call_Name_kw (ld_glob I hg T.gC ?_ hdb)
  refine PySem.W.callWith_K (h₀ := X.base) I.ok.mod.kin S.kC (thn (ha.run pos pins s σ H _ I h) fun us s1 hh => ?_) he hpl
  obtain ⟨vs, H1, I1, r1, v, e1, q⟩ := hh
  subst e1
  refine ⟨I1.kIn, ?_⟩
  obtain ⟨u, rfl, rv⟩ := vals1 r1
  obtain ⟨hp, ge, dr, tk, os⟩ := s1
  exact wpAny_call (made1 S I1.kIn I1.modIn T.su ev T.n1 n nd (by have := hr.dp; omega) fun h' tk' e d M => made_mkp1 I1 (sup_raises S) M (relO_1 rv) q)
theorem pmk_x2 {a b : Expr} {ta : TA} (T : Exc2 X.prog X.K X.mg x C f g) (hr : Room (k + 2) X.A) (ha : PA X [a, b] ta) (hg : Gl X x) (hdb : (x == ("__debug__" : Str)) = false := by decide)
    (he : starEach (a :: [b]) X.env = (false, eval a X.env) :: starEach [b] X.env := by rfl) (hpl : (backTo pos (starEach [b] X.env)).any (·.1) = false := by rfl) : PMk X (.Call (.Name x p) [a, b] [] pos) (tMk2 C f g ta) := by
  obtain ⟨fI, y, yz, m, j, p0, p1, p2, p3, p4, p5, q0, q1, q2, q3, r0, r1, r2, r3, S, ev, n, nd1, nd2⟩ := T.ex
  intro pins s σ H Q I h
  refine wpAny_Call_Name_kw (ld_glob I hg T.gC ?_ hdb)
  refine PySem.W.callWith_K (h₀ := X.base) I.ok.mod.kin S.kC (thn (ha.run pos pins s σ H _ I h) fun us s1 hh => ?_) he hpl
  obtain ⟨vs, H1, I1, r1, v, z, e1, q⟩ := hh
  subst e1
  refine ⟨I1.kIn, ?_⟩
  obtain ⟨u, w, rfl, rv, rw'⟩ := vals2 r1
  obtain ⟨hp, ge, dr, tk, os⟩ := s1
  exact wpAny_call (made2 S I1.kIn I1.modIn T.su ev T.n1 T.n2 n nd1 nd2 (by have := hr.dp; omega) fun h' tk' e d M => made_mkp1 I1 (sup_raises S) M (relO_2 rv rw') q)
end
end L2
end
section
namespace MPX
open PySem PySem.Spec PyProof.Rows L2
open L2H (RoomH PinOk cxH inv_startH)
/-- p's object: an exception of the class cls, its dict at d -/
def ExcIs (cls : Value) (d : Option Addr) (p : Addr × Obj) : Prop := Zc cls d p.2 ∧ ∃ vs, p.2.data = .fields vs
theorem pe_imp {X : Cx} {e : Expr} {t t' : TE} (h : PE X e t) (i : ∀ σ H Q, t' σ H Q → t σ H Q) : PE X e t' := ⟨fun pins s σ H Q I q => h.run pins s σ H Q I (i σ H Q q)⟩
def DOk (d : Option Addr) (fs : List (Str × V)) (H : Hp) : Prop := match d with
  | none => fs = []
  | some dd => H dd = some (.xd fs)
theorem DOk.same {d : Option Addr} {fs : List (Str × V)} {H H' : Hp} (h : DOk d fs H) (s : ∀ b o, H b = some o → H' b = some o) : DOk d fs H' := by
  cases d with
  | none => exact h
  | some dd => exact s _ _ h
section
variable {X : Cx} {C a : Addr} {d : Option Addr} {p : Addr × Obj} {fs : List (Str × V)}
theorem inst_of {pins : List (Addr × Obj)} {σ : L2.St} {H : Hp} {s : Shared} (I : Inv X pins σ H s) (hp : p ∈ X.pn) (hz : ExcIs (.ref C) d p) (hd : DOk d fs H) : ∃ od, PySem.W.InstAt s.heap p.1 p.2 C od := by
  obtain ⟨hget, _⟩ := I.pin p (List.mem_append_left _ hp)
  obtain ⟨⟨h1, h2⟩, vs, hv⟩ := hz
  have nc : PySem.W.notCls p.2 = true := by unfold PySem.W.notCls; rw [hv] <;> rfl
  cases d with
  | none => exact ⟨none, hget, h1, nc, by rw [h2]; trivial⟩
  | some dd =>
    have hx : ObjOk X.prog X.w H s.heap dd (.xd fs) := I.hok dd _ hd
    obtain ⟨mA, hns, hr⟩ := hx
    obtain ⟨od, ho, hl⟩ := lookIn_ns hns
    exact ⟨some od, hget, h1, nc, by rw [h2]; exact ho⟩
/-- isinstance(e, c), e a pinned exception -/
def rIsP (K : PySem.W.Frag) (a : Addr) (cls : Value) (d : Option Addr) : List V → Hp → VK → Prop := fun xs H Q => ∃ (C : Addr) (c : V) (cv : Value) (b : Bool) (fs : List (Str × V)), cls = .ref C ∧ ExcC K C ∧ xs = [.ref a, c] ∧ (∀ u, RelV c u → u = cv) ∧ PySem.W.kitOne K (.ref C) cv = some b ∧ DOk d fs H ∧ Q (.bl b) H
theorem call_isP {cls : Value} (hp : p ∈ X.pn) (hz : ExcIs cls d p) : CallR X (.builtin "isinstance") (rIsP X.K p.1 cls d) := by
  intro pins s σ H xs us Q I r h
  obtain ⟨C, c, cv, b, fs, ec0, T, rfl, hcv, e, hd, q⟩ := h
  subst ec0
  obtain ⟨u1, u2, rfl, r1, r2⟩ := vals2 r
  cases r1
  have ec := hcv _ r2
  subst ec
  obtain ⟨od, J⟩ := inst_of I hp hz hd
  have hcl : (PySem.W.clsIn X.K C).isSome = true := by
    obtain ⟨cd, hc, _⟩ := PySem.W.any_some T.hd
    rw [hc]
    rfl
  exact PySem.W.kia_one (PySem.W.kitx_exc hcl T.hg T.hk T.hs T.ha T.hn T.ht T.hm) I.kIn J e (fun z => nomatch z) fun tk => ⟨.bl b, H, I.kept (t' := tk) fun _ _ z => z, rfl, q⟩
/-- e.n, e a pinned exception -/
def tPf (K : PySem.W.Frag) (a : Addr) (cls : Value) (d : Option Addr) (n : Str) (te : TE) : TE := fun σ H Q => te σ H fun x H1 => x = .ref a ∧ ∃ (C : Addr), cls = .ref C ∧ XfC K C ∧ PySem.W.findIn K (.ref C) n = some none ∧ ∃ (dd : Addr) (fs : List (Str × V)) (v : V), d = some dd ∧ H1 dd = some (.xd fs) ∧ fs.lookup n = some v ∧ Q v H1
theorem pe_pf {cls : Value} {n : Str} {e : Expr} {te : TE} {pos : Pos} (hp : p ∈ X.pn) (hz : ExcIs cls d p) (he : PE X e te)
    (hb : attributeBase e n X.env (eval e X.env) = eval e X.env := by rfl) : PE X (.Attribute e n pos) (tPf X.K p.1 cls d n te) := by
  constructor
  intro pins s σ H Q I h
  refine attr_of hb (thn (he.run pins s σ H _ I h) fun u s1 hh => ?_)
  obtain ⟨x, H1, I1, rx, ex, C, ec0, T, hno, dd, fs, v, ed, hd, l, q⟩ := hh
  subst ex
  subst ec0
  subst ed
  cases rx
  obtain ⟨hget, _⟩ := I1.pin p (List.mem_append_left _ hp)
  obtain ⟨⟨h1, h2⟩, vs, hv⟩ := hz
  have hx : ObjOk X.prog X.w H1 s1.heap dd (.xd fs) := I1.hok dd _ hd
  obtain ⟨mA, hns, hr⟩ := hx
  obtain ⟨od, ho, hl⟩ := lookIn_ns hns
  have q2 := hr n
  rw [l] at q2
  obtain ⟨u, hu, ru⟩ := RelO.some_of q2
  have J : PySem.W.InstAt s1.heap p.1 p.2 C (some od) := ⟨hget, h1, by unfold PySem.W.notCls; rw [hv] <;> rfl, by rw [h2]; exact ho⟩
  exact HandSPX.exc_get I1.kIn J T.ga T.gg T.exC (PySem.W.findObj_own T.hdC hno rfl (by rw [hl, hu])) (handed_of ru) ⟨v, H1, I1.tok _, ru, q⟩
end
/-! ### a def that is called within an except suite; p: the exception that is pinned there -/
structure FnP (P : Program) (w : World) (K : PySem.W.Frag) (mg : Str → Option Value) (base : Heap) (k : Nat) (f : Addr) (fd : FuncData) (ps : List Str) (sp : Addr × Obj → Sp) : Prop where
  len : ∀ p vs H Q E, sp p vs H Q E → vs.length = ps.length
  run : ∀ (A : Around) (outer : List Env) (s : Shared) (H : Hp) (us : List Value) (vs : List V) (Q : VK) (p : Addr × Obj), RoomH k A → PinOk outer H s p → Env0 P w K mg base A outer s H → BindsTo s fd ⟨us, []⟩ (ps.zip us) → Vals vs us → sp p vs H Q E0 →
    codeAny (model P w) A (.call (.ref f) ⟨us, []⟩) (CR CX0 outer P w H s Q E0) s
theorem fnP_of {P : Program} {w : World} {K : PySem.W.Frag} {mg : Str → Option Value} {base : Heap} {k : Nat} {f : Addr} {fd : FuncData} {x qual : Str} {st : Stmt} {N ps : List Str} {sp : Addr × Obj → Sp}
    (F : Fun K x qual st f fd) (S : FnScope N ps (defScope st)) (len : ∀ p vs H Q E, sp p vs H Q E → vs.length = ps.length)
    (hbody : ∀ (cdv : Value) (A : Around) (outer : List Env) (s : Shared) (H : Hp) (vs : List V) (Q : VK) (p : Addr × Obj), RoomH k (A.deeper (envOfC qual (defScope st) s.heap.objs.size f cdv)) → sp p vs H Q E0 →
      ∃ t, PSs (cxH CX0 P w K mg base N qual (defScope st) f cdv A outer s H E0 p).nox (defBody st) t ∧ t { nx := fun _ H' => Q .non H', rt := Q } (L2.start N vs) H) :
    FnP P w K mg base (k + 1) f fd ps sp := by
  obtain ⟨oc, od, kV, doc, pm, an, cdv, ct, osl, rfl, lk, hcd⟩ := F.ex
  constructor
  · exact len
  intro A outer s H us vs Q p hr hpin e0 hb r hsp
  have keep : ∀ b o, base.get? b = some o → s.heap.get? b = some o := fun b o e => (e0.bs b o e).1
  have KX : K.In s.heap := e0.mod.kin.keeps keep
  refine codeAny_call_function hr.depth (KX _ _ lk) rfl S.co S.gen rfl (PySem.W.codeRec_of KX hcd) (hb _ _ _ _ ?_)
  refine wpAny_newFunctionEnv_cells S.kind (fun y hy => ?_) fun env he s1 ic => ?_
  · rcases S.par y.1 (List.of_mem_zip hy).1 with q | q
    · exact Or.inl q
    · exact Or.inr ⟨q, PySem.W.cellsFrom_some _ _ _ (.inl q)⟩
  subst he
  have lim : s1.heap.NoLimit := (e0.mod.nolimit.keeps keep).keeps ic.toInCall.keep
  refine ⟨lim, codeAny_func ?_⟩
  obtain ⟨t, ht, hq⟩ := hbody cdv A outer s H vs Q p (hr.deeper _) hsp
  have I := inv_startH (CX := CX0) (P := P) (w := w) (K := K) (mg := mg) (base := base) (f := f) (cd := cdv) (E := E0) S hpin e0 (len _ _ _ _ _ hsp) r ic
  refine wpAny_mono (ht.nox.run [] s1 (L2.start N vs) H _ I hq) (fun fl s' hs => ?_) (fun _ _ hs => hs)
  cases fl with
  | ret u =>
    obtain ⟨v, σ', H', J, rv, q⟩ := hs
    exact ⟨v, H', J.os, J.bare, J.base, J.hok, rv, q⟩
  | next =>
    obtain ⟨σ', H', J, q⟩ := hs
    exact ⟨V.non, H', J.os, J.bare, J.base, J.hok, rfl, q⟩
  | brk => exact (hs.choose_spec.choose_spec.2 : False).elim
  | cont => exact (hs.choose_spec.choose_spec.2 : False).elim
structure CalP (P : Program) (w : World) (K : PySem.W.Frag) (mg : Str → Option Value) (base : Heap) (k : Nat) (x : Str) (sp : Addr × Obj → Sp) : Prop where
  ex : ∃ (f : Addr) (fd : FuncData) (ps : List Str), FnP P w K mg base k f fd ps sp ∧ mg x = some (.ref f) ∧ PySem.W.keepIn K (.ref f) = true ∧ Binds K fd ps []
def tCallP (sp : Sp) (t : TA) : TE := fun σ H Q => t σ H fun vs H1 => sp vs H1 Q E0
theorem pe_cp {X : Cx} {k j : Nat} {x : Str} {sp : Addr × Obj → Sp} {p : Addr × Obj} {q pos : Pos} {e : Expr} {es : List Expr} {t : TA} (c : CalP X.prog X.w X.K X.mg X.base k x sp) (hr : RoomH j X.A) (hk : k ≤ j) (hp : p ∈ X.pn) (hg : Gl X x) (ha : PA X (e :: es) t)
    (hdb : (x == ("__debug__" : Str)) = false := by decide) (he : starEach (e :: es) X.env = (false, eval e X.env) :: starEach es X.env := by rfl) (hpl : (backTo pos (starEach es X.env)).any (·.1) = false := by rfl) :
    PE X (.Call (.Name x q) (e :: es) [] pos) (tCallP (sp p) t) := by
  obtain ⟨f, fd, ps, F, hm, kp, hb⟩ := c.ex
  constructor
  intro pins s σ H Q I h
  refine wpAny_Call_Name_kw (ld_glob I hg hm ?_ hdb)
  refine PySem.W.callWith_K (h₀ := X.base) I.ok.mod.kin kp (thn (ha.run pos pins s σ H _ I h) fun us s1 hh => ?_) he hpl
  obtain ⟨vs, H1, I1, r, q1⟩ := hh
  refine ⟨I1.kIn, ?_⟩
  have hl : us.length = ps.length := by rw [← r.length]; exact F.len _ _ _ _ _ q1
  have b := hb s1 us I1.kIn (by rw [List.append_nil]; exact hl)
  rw [List.append_nil] at b
  obtain ⟨P1, P2, P3, P4, P5⟩ := I1.pin p (List.mem_append_left _ hp)
  have pin : PinOk X.stack H1 s1 p := ⟨P1, P2, fun hm => (List.mem_cons.mp (I1.stkSub p.1 hm)).elim P3 P4, P5⟩
  show wpAny _ _ (call (.ref f) us) _ _ _
  refine wpAny_call (codeAny_mono (F.run X.A X.stack s1 H1 us vs Q p (hr.mono hk) pin I1.env0 b r q1) fun r s' hq => ?_)
  cases r with
  | error e => exact False.elim hq
  | ok fl =>
    cases fl with
    | ret u => exact I1.after hq
    | next => exact False.elim hq
    | brk => exact False.elim hq
    | cont => exact False.elim hq
theorem x_mk0 {C : Addr} {σ : L2.St} {H : Hp} {Q : XK} (h : Q (.ref C) none H) : tMk0 C σ H Q := h
theorem x_mk1 {C : Addr} {f : Str} {ta : TA} {σ : L2.St} {H : Hp} {Q : XK} (h : ta σ H fun vs H1 => ∃ v, vs = [v] ∧ ∀ d, H1 d = none → Q (.ref C) (some d) (upd H1 d (.xd [(f, v)]))) : tMk1 C f ta σ H Q := h
theorem x_mk2 {C : Addr} {f g : Str} {ta : TA} {σ : L2.St} {H : Hp} {Q : XK} (h : ta σ H fun vs H1 => ∃ v z, vs = [v, z] ∧ ∀ d, H1 d = none → Q (.ref C) (some d) (upd H1 d (.xd [(g, z), (f, v)]))) : tMk2 C f g ta σ H Q := h
theorem x_callP {sp : Sp} {tr : TA} {σ : L2.St} {H : Hp} {Q : VK} (h : tr σ H fun vs H1 => sp vs H1 Q E0) : tCallP sp tr σ H Q := h
end MPX
end
section
namespace MP
open PySem L2
/-! ### steps of a reading, at its head -/
section
variable {K : PySem.W.Frag} {σ : L2.St} {H : Hp} {D : Ends} {Q : VK} {te ta tb tc : TE} {tt uu : TT} {t u : TS} {g : TG} {r : R2} {i : Nat} {v : V}
theorem x_seq (h : t { D with nx := u D } σ H) : tSeq t u D σ H := h
theorem x_next (h : D.nx σ H) : tNext D σ H := h
theorem x_brk (h : D.bk σ H) : tBreak D σ H := h
theorem x_cont (h : D.ct σ H) : tCont D σ H := h
theorem x_drop (h : te σ H fun _ H1 => D.nx σ H1) : tDrop te D σ H := h
theorem x_ret (h : te σ H D.rt) : tRet te D σ H := h
theorem x_retN (h : D.rt .non H) : tRetN D σ H := h
theorem x_ifs (h : tt σ H fun b H1 => if b = true then t D σ H1 else u D σ H1) : tIfS tt t u D σ H := h
theorem x_asg (h : te σ H fun x H1 => g x σ H1 D.nx) : tAsg te g D σ H := h
theorem x_name {R : L2.St → Hp → Prop} (h : R (σ.set i (some v)) H) : gName i v σ H R := h
theorem x_var (e : σ[i]? = some (some v)) (h : Q v H) : tVar i σ H Q := ⟨v, e, h⟩
theorem x_c (h : Q v H) : tC v σ H Q := h
theorem x_op (h : ta σ H fun x H1 => tb σ H1 fun y H2 => r x y H2 Q) : tOp r ta tb σ H Q := h
theorem x_un {r : V → Hp → VK → Prop} (h : ta σ H fun x H1 => r x H1 Q) : tUn r ta σ H Q := h
theorem x_test {R : Bool → Hp → Prop} (h : te σ H fun x H' => ∃ k, x = .bl k ∧ R k H') : tTest te σ H R := h
theorem x_tB {R : Bool → Hp → Prop} (h : te σ H fun x H' => ∃ k, x = .bl k ∧ R k H') : tB te σ H R := h
theorem x_and {R : Bool → Hp → Prop} (h : tt σ H fun c H1 => if c = true then uu σ H1 R else R false H1) : tAnd tt uu σ H R := h
theorem x_or {R : Bool → Hp → Prop} (h : tt σ H fun c H1 => if c = true then R true H1 else uu σ H1 R) : tOr tt uu σ H R := h
theorem x_not {R : Bool → Hp → Prop} (h : tt σ H fun c H1 => R (!c) H1) : tNot tt σ H R := h
theorem x_andV (h : ta σ H fun x H1 => ∃ c, x = .bl c ∧ if c = true then tb σ H1 Q else Q (.bl false) H1) : tAndV ta tb σ H Q := h
theorem x_orV (h : ta σ H fun x H1 => ∃ c, x = .bl c ∧ if c = true then Q (.bl true) H1 else tb σ H1 Q) : tOrV ta tb σ H Q := h
theorem x_notV (h : ta σ H fun x H1 => ∃ c, x = .bl c ∧ Q (.bl (!c)) H1) : tNotV ta σ H Q := h
theorem x_if (h : tt σ H fun c H1 => if c = true then ta σ H1 Q else tb σ H1 Q) : tIf tt ta tb σ H Q := h
theorem x_nil {R : List V → Hp → Prop} (h : R [] H) : tNil σ H R := h
theorem x_cons {tr : TA} {R : List V → Hp → Prop} (h : ta σ H fun x H1 => tr σ H1 fun xs H2 => R (x :: xs) H2) : tCons ta tr σ H R := h
theorem x_tup {tr : TA} (h : tr σ H fun xs H1 => xs.length ≤ sizeLine ∧ ∀ p, H1 p = none → Q (.ref p) (upd H1 p (.tup xs))) : tTup tr σ H Q := h
theorem x_lst {tr : TA} (h : tr σ H fun xs H1 => xs.length ≤ sizeLine ∧ ∀ p, H1 p = none → Q (.ref p) (upd H1 p (.lst xs))) : tLst tr σ H Q := h
theorem x_cb {r : List V → Hp → VK → Prop} {tr : TA} (h : tr σ H fun vs H1 => r vs H1 Q) : tCB r tr σ H Q := h
theorem x_call {sp : Sp} {dvs : List V} {E : XK} {tr : TA} (h : tr σ H fun vs H1 => sp (vs ++ dvs) H1 Q E) : tCall sp dvs E tr σ H Q := h
theorem x_m0 {r : V → List V → Hp → VK → Prop} (h : ta σ H fun x H1 => (∃ a, x = .str a) ∧ r x [] H1 Q) : tM0 r ta σ H Q := h
theorem x_m1 {r : V → List V → Hp → VK → Prop} (h : ta σ H fun x H1 => (∃ a, x = .str a) ∧ tb σ H1 fun y H2 => r x [y] H2 Q) : tM1 r ta tb σ H Q := h
theorem x_bm0 {T : String} {r : V → List V → Hp → VK → Prop} (h : ta σ H fun x H1 => tyV K T x H1 ∧ r x [] H1 Q) : tBM0 K T r ta σ H Q := h
theorem x_bm {T : String} {tr : TA} {r : V → List V → Hp → VK → Prop} (h : ta σ H fun x H1 => tyV K T x H1 ∧ tr σ H1 fun xs H2 => r x xs H2 Q) : tBM K T r ta tr σ H Q := h
theorem x_par {j : Nat} {tr : TA} (h : tr σ H fun vs H1 => ∃ v w, vs = [v, w] ∧ D.nx ((σ.set i (some v)).set j (some w)) H1) : tPar i j tr D σ H := h
theorem x_eq {x y : V} (hs : scal x y = true) (h : Q (.bl (decide (x = y))) H) : rEq x y H Q := ⟨hs, h⟩
theorem x_ne {x y : V} (hs : scal x y = true) (h : Q (.bl (!decide (x = y))) H) : rNe x y H Q := ⟨hs, h⟩
theorem x_rI0 {f : Int → Int → V} {a b : Int} (h : Q (f a b) H) : rI0 f (.int a) (.int b) H Q := ⟨a, b, rfl, rfl, h⟩
theorem x_rI {C : Int → Int → Prop} {f : Int → Int → V} {a b : Int} (hc : C a b) (h : Q (f a b) H) : rI C f (.int a) (.int b) H Q := ⟨a, b, rfl, rfl, hc, h⟩
theorem x_ilist {R : It → Hp → Prop} (h : ta σ H fun x H1 => ∃ a, x = V.ref a ∧ (∃ xs, SqL K H1 a xs) ∧ R (Itl K a) H1) : iList K ta σ H R := h
theorem x_itup {R : It → Hp → Prop} (h : ta σ H fun x H1 => ∃ a, x = V.ref a ∧ (∃ xs, SqT K H1 a xs) ∧ R (Itt K a) H1) : iTup K ta σ H R := h
theorem x_istr {R : It → Hp → Prop} (h : ta σ H fun v H1 => ∃ x, v = V.str x ∧ R (Its x) H1) : iStr ta σ H R := h
theorem x_T {A B : Prop} (h : A) : if true = true then A else B := by rw [if_pos rfl]; exact h
theorem x_F {A B : Prop} (h : B) : if false = true then A else B := by rw [if_neg Bool.false_ne_true]; exact h
theorem x_D {p A B : Prop} [Decidable p] (h1 : p → A) (h2 : ¬ p → B) : if decide p = true then A else B := by
  by_cases h : p
  · rw [decide_eq_true h, if_pos rfl]; exact h1 h
  · rw [decide_eq_false h, if_neg Bool.false_ne_true]; exact h2 h
theorem x_ND {p A B : Prop} [Decidable p] (h1 : ¬ p → A) (h2 : p → B) : if (!decide p) = true then A else B := by
  by_cases h : p
  · rw [decide_eq_true h]; exact x_F (h2 h)
  · rw [decide_eq_false h]; exact x_T (h1 h)
theorem x_B {b : Bool} {A B : Prop} (h1 : b = true → A) (h2 : b = false → B) : if b = true then A else B := by
  cases b with
  | true => rw [if_pos rfl]; exact h1 rfl
  | false => rw [if_neg Bool.false_ne_true]; exact h2 rfl
theorem x_NB {b : Bool} {A B : Prop} (h1 : b = false → A) (h2 : b = true → B) : if (!b) = true then A else B := by
  cases b with
  | true => exact x_F (h2 rfl)
  | false => exact x_T (h1 rfl)
end
/-- a comprehension over a list whose test and element touch nothing that lasts -/
theorem lc_pure {K : PySem.W.Frag} {a : Addr} {xs : List V} {g : TG} {tt : TT} {te : TE} {vs : List Nat} {σ : L2.St} {H1 : Hp} {D : Addr} {Qd : Hp → Prop} (f : V → Bool) (v : V → V)
    (hx : SqL K H1 a xs) (hn : H1 D = none) (hz : xs.length < 100000)
    (hs : ∀ x H (acc : List V) (R : Hp → Prop), x ∈ xs → Same H1 H → H D = some (.lst acc) → acc.length < sizeLine → (f x = true → R (upd H D (.lst (acc ++ [v x])))) → (f x = false → R H) → g x (wipe σ vs) H fun σ2 H2 => wipe σ2 vs = wipe σ vs ∧ tt σ2 H2 fun b H3 =>
      if b = true then te σ2 H3 fun y H4 => ∃ acc, H4 D = some (.lst acc) ∧ acc.length < sizeLine ∧ R (upd H4 D (.lst (acc ++ [y]))) else R H3)
    (hd : Qd (upd H1 D (.lst ((xs.filter f).map v)))) :
    ∃ W : Nat → Nat → Hp → Prop, (∃ m, W 0 m (upd H1 D (.lst []))) ∧ ∀ i m H, W i m H →
      ((Itl K a).stop i H ∧ Qd H) ∨ ((Itl K a).go i H ∧ ∃ Nx : Hp → Prop, (∀ H', Nx H' → ∃ m', m' < m ∧ W (i + 1) m' H') ∧ ∀ x H', (Itl K a).yld i H x H' → g x (wipe σ vs) H' fun σ2 H2 => wipe σ2 vs = wipe σ vs ∧ tt σ2 H2 fun b H3 =>
        if b = true then te σ2 H3 fun y H4 => ∃ acc, H4 D = some (.lst acc) ∧ acc.length < sizeLine ∧ Nx (upd H4 D (.lst (acc ++ [y]))) else Nx H3) := by
  have same : ∀ o, Same H1 (upd H1 D o) := fun o b u e => by rw [upd_ne (ne_of_none e hn)]; exact e
  refine lc_list (xs := xs) (fun i H => H = upd H1 D (.lst (((xs.take i).filter f).map v))) rfl (fun i H _ e => ?_) (fun i x H hi e => ?_) (fun H e => ?_)
  · rw [e]
    exact (same _).seq hx
  · subst e
    have hil := (List.getElem?_eq_some_iff.mp hi).1
    have htake : xs.take (i + 1) = xs.take i ++ [x] := by rw [List.take_add_one, hi]; rfl
    have hlen : (((xs.take i).filter f).map v).length < sizeLine := by
      rw [List.length_map]
      have h1 := List.length_filter_le f (xs.take i)
      rw [List.length_take] at h1
      have : (100000 : Nat) ≤ sizeLine := by decide
      omega
    refine hs x _ (((xs.take i).filter f).map v) _ (List.mem_of_getElem? hi) (same _) upd_same hlen (fun hf => ?_) (fun hf => ?_)
    · rw [htake, List.filter_append, List.map_append, upd_upd, List.filter_cons_of_pos hf]
      rfl
    · rw [htake, List.filter_append, List.map_append, List.filter_cons_of_neg (by rw [hf]; decide)]
      simp
  · subst e
    rw [List.take_length]
    exact hd
theorem len_ok {xs : List V} (h : Nat.ble xs.length 1000 = true) : xs.length ≤ sizeLine := Nat.le_trans (Nat.le_of_ble_eq_true h) (by decide)
theorem big5 : (100000 : Nat) ≤ sizeLine := by decide
theorem upd_new {H : Hp} {p q : Addr} {o u : HO} (h : H q = some u) (n : H p = none) : upd H p o q = some u := by rw [upd_ne (ne_of_none h n)]; exact h
theorem same_upd {H : Hp} {p : Addr} {o : HO} (n : H p = none) : Same H (upd H p o) := fun b u e => upd_new e n
section
variable {K : PySem.W.Frag} {σ : L2.St} {H : Hp} {Q : VK} {te : TE} {to tl th : TO}
theorem x_sl {r : V → Option Int → Option Int → Hp → VK → Prop} (h : te σ H fun x H1 => tl σ H1 fun l H2 => th σ H2 fun u H3 => r x l u H3 Q) : tSl r te tl th σ H Q := h
theorem x_nopart {R : Option Int → Hp → Prop} (h : R none H) : tNoPart σ H R := h
theorem x_part {R : Option Int → Hp → Prop} (h : te σ H fun x H1 => ∃ i, x = V.int i ∧ R (some i) H1) : tPart te σ H R := h
theorem x_slL {a : Addr} {xs : List V} {lo hi : Option Int} (hs : SqL K H a xs) (h : ∀ p, H p = none → Q (.ref p) (upd H p (.lst (cutV xs lo hi)))) : rSlL K (.ref a) lo hi H Q := ⟨a, xs, rfl, hs, h⟩
theorem x_ixL {a : Addr} {xs : List V} {i : Int} {v : V} (hs : SqL K H a xs) (ha : atI xs i = some v) (h : Q v H) : rIxL K (.ref a) (.int i) H Q := ⟨a, xs, i, v, rfl, rfl, hs, ha, h⟩
theorem x_ixT {a : Addr} {xs : List V} {i : Int} {v : V} (hs : SqT K H a xs) (ha : atI xs i = some v) (h : Q v H) : rIxT K (.ref a) (.int i) H Q := ⟨a, xs, i, v, rfl, rfl, hs, ha, h⟩
theorem x_mod {i j : Int} (hj : 0 < j) (h : ∀ r, r = i % j → 0 ≤ r → r < j → Q (.int r) H) : rI (fun _ j => j ≠ 0) (fun i j => .int (i.fmod j)) (.int i) (.int j) H Q :=
  ⟨i, j, rfl, rfl, by show j ≠ 0; omega, by
    show Q (.int (i.fmod j)) H
    rw [Int.fmod_eq_emod_of_nonneg i (by omega)]
    exact h _ rfl (Int.emod_nonneg _ (by omega)) (Int.emod_lt_of_pos _ hj)⟩
theorem divW {i j : Int} (h : 0 < j) (h2 : j < 18446744073709551616) : CDivW i j := wide_div h (b := 64) (by omega) (by decide) (by decide)
theorem mulW {i j : Int} (h : i.natAbs < 18446744073709551616) (h2 : j.natAbs < 18446744073709551616) : CMulW i j := wide_mul (a := 64) (b := 64) h h2 (by decide) (by decide) (by decide)
theorem x_disp {trs : List (TE × TE)} (h : ∀ p, H p = none → tPairs trs σ (upd H p (.dK [])) fun ps H2 => H2 p = some (.dK []) ∧ ∃ kvs : List (Key × V), ps = kvs.map (fun kv => (kV kv.1, kv.2)) ∧ kvs.length ≤ 15 ∧ Q (.ref p) (upd H2 p (.dK (mergeK [] kvs)))) : tDisp trs σ H Q := h
theorem x_pcons {tk tv : TE} {r : List (TE × TE)} {R : List (V × V) → Hp → Prop} (h : tk σ H fun x H1 => tv σ H1 fun y H2 => tPairs r σ H2 fun ps H3 => R ((x, y) :: ps) H3) : tPairs ((tk, tv) :: r) σ H R := h
theorem x_pnil {R : List (V × V) → Hp → Prop} (h : R [] H) : tPairs [] σ H R := h
end
/-! ### a def of the module that can be called; a statement with a word behind it -/
structure Cal (P : Program) (w : World) (K : PySem.W.Frag) (mg : Str → Option Value) (base : Heap) (k : Nat) (x : Str) (sp : Sp) : Prop where
  ex : ∃ (f : Addr) (fd : FuncData) (ps : List Str), FnOk P w K mg base (L2.CX P w) k f fd ps sp ∧ mg x = some (.ref f) ∧ PySem.W.keepIn K (.ref f) = true ∧ Binds K fd ps []
theorem fn_cx {P : Program} {w : World} {K : PySem.W.Frag} {mg : Str → Option Value} {base : Heap} {k : Nat} {f : Addr} {fd : FuncData} {ps : List Str} {sp : Sp} (F : FnOk P w K mg base CX0 k f fd ps sp) : FnOk P w K mg base (L2.CX P w) k f fd ps sp := by
  refine ⟨F.len, fun A outer s H args us vs Q E hr e0 hb hv hs => codeAny_mono (F.run A outer s H args us vs Q E hr e0 hb hv hs) fun r s' h => ?_⟩
  cases r with
  | error e => exact False.elim h
  | ok fl =>
    cases fl with
    | ret u => exact h
    | next => exact False.elim h
    | brk => exact False.elim h
    | cont => exact False.elim h
section
variable {X : Cx} {k j : Nat} {x : Str} {sp : Sp} {p pos : Pos} {e : Expr} {es : List Expr} {t : TA} {E : St → XK}
/-- a call that lets no error out -/
theorem pe_cc (c : Cal X.prog X.w X.K X.mg X.base k x sp) (hr : Room j X.A) (hk : k ≤ j) (hg : Gl X x) (ha : PA X (e :: es) t)
    (hdb : (x == ("__debug__" : Str)) = false := by decide) (he : starEach (e :: es) X.env = (false, eval e X.env) :: starEach es X.env := by rfl) (hpl : (backTo pos (starEach es X.env)).any (·.1) = false := by rfl) :
    PE X (.Call (.Name x p) (e :: es) [] pos) (tCall sp [] E0 t) := by
  obtain ⟨f, fd, ps, F, hm, kp, b⟩ := c.ex
  exact pe_call F (hr.mono hk) hg hm kp b .nil passL ha hdb he hpl
/-- a call whose error is wished for -/
theorem pe_cs (c : Cal X.prog X.w X.K X.mg X.base k x sp) (hr : Room j X.A) (hk : k ≤ j) (hg : Gl X x) (hx : ∀ σ, PassesAt (L2.CX X.prog X.w) X σ (E σ)) (ha : PA X (e :: es) t)
    (hdb : (x == ("__debug__" : Str)) = false := by decide) (he : starEach (e :: es) X.env = (false, eval e X.env) :: starEach es X.env := by rfl) (hpl : (backTo pos (starEach es X.env)).any (·.1) = false := by rfl) :
    PE X (.Call (.Name x p) (e :: es) [] pos) (tCallS sp E t) := by
  obtain ⟨f, fd, ps, F, hm, kp, b⟩ := c.ex
  exact pe_callS F (hr.mono hk) hg hm kp b hx ha hdb he hpl
theorem pe_cc0 (c : Cal X.prog X.w X.K X.mg X.base k x sp) (hr : Room j X.A) (hk : k ≤ j) (hg : Gl X x) (hdb : (x == ("__debug__" : Str)) = false := by decide) : PE X (.Call (.Name x p) [] [] pos) (tCall sp [] E0 tNil) := by
  obtain ⟨f, fd, ps, F, hm, kp, b⟩ := c.ex
  exact pe_call0 F (hr.mono hk) hg hm kp b .nil passL hdb
end
def tWord (t u : TS) : TS := fun D σ H => ∃ M : L2.St → Hp → Prop, t { D with nx := M } σ H ∧ ∀ σ' H', M σ' H' → u D σ' H'
theorem pss_word {X : Cx} {st : Stmt} {more : List Stmt} {t u : TS} (h1 : PS X st t) (h2 : PSs X more u) : PSs X (st :: more) (tWord t u) := by
  constructor
  intro pins s σ H D I h
  obtain ⟨M, hm, hu⟩ := h
  refine wpAny_execs_cons (thn (h1.run pins s σ H { D with nx := M } I hm) fun f s1 q => ?_)
  cases f with
  | next =>
    obtain ⟨σ', H', I', q'⟩ := q
    exact h2.run pins s1 σ' H' D I' (hu σ' H' q')
  | ret v => exact q
  | brk => exact q
  | cont => exact q
theorem x_callS {sp : Sp} {E : L2.St → XK} {tr : TA} {σ : L2.St} {H : Hp} {Q : VK} (h : tr σ H fun vs H1 => sp vs H1 Q (E σ)) : tCallS sp E tr σ H Q := h
/-! ### dicts -/
section
variable {σ : L2.St} {H : Hp} {D : Ends} {Q : VK} {td ty tv tx : TE}
theorem x_dget (h : td σ H fun x H1 => ty σ H1 fun y H2 => ∃ a v, x = V.ref a ∧ DGet H2 a y (some v) ∧ Q v H2) : tDGet td ty σ H Q := h
theorem x_dput (h : tv σ H fun v H1 => td σ H1 fun x H2 => ty σ H2 fun y H3 => ∃ a H4, x = V.ref a ∧ DPut H3 a y v H4 ∧ D.nx σ H4) : sDPut td ty tv D σ H := h
theorem x_dnew (h : ∀ p, H p = none → Q (.ref p) (upd H p (.dK []))) : tDNewK σ H Q := h
theorem x_dget1 (h : td σ H fun x H1 => ∃ a, x = V.ref a ∧ IsD H1 a ∧ ty σ H1 fun y H2 => ∃ o, DGet H2 a y o ∧ Q (o.getD .non) H2) : tDGet1 td ty σ H Q := h
theorem x_dget2 (h : td σ H fun x H1 => ∃ a, x = V.ref a ∧ IsD H1 a ∧ ty σ H1 fun y H2 => tx σ H2 fun z H3 => ∃ o, DGet H3 a y o ∧ Q (o.getD z) H3) : tDGet2 td ty tx σ H Q := h
end
theorem dget_s {H : Hp} {a : Addr} {kvs : List (Key × V)} {x : Str} {r : Option V} (e : H a = some (.dK kvs)) (h : valV kvs (Sum.inr x : Key) = r) : DGet H a (.str x) r := h ▸ DGet.k (k := Sum.inr x) e
theorem dget_i {H : Hp} {a : Addr} {kvs : List (Key × V)} {i : Int} {r : Option V} (e : H a = some (.dK kvs)) (h : valV kvs (Sum.inl i : Key) = r) : DGet H a (.int i) r := h ▸ DGet.k (k := Sum.inl i) e
theorem dput_s {H : Hp} {a : Addr} {kvs kvs' : List (Key × V)} {x : Str} {v : V} (e : H a = some (.dK kvs)) (hl : kvs.length < 100000) (h : putK kvs (Sum.inr x : Key) v = kvs') : DPut H a (.str x) v (upd H a (.dK kvs')) := h ▸ DPut.k (k := Sum.inr x) e (Nat.lt_of_lt_of_le hl big5)
theorem dput_i {H : Hp} {a : Addr} {kvs kvs' : List (Key × V)} {i : Int} {v : V} (e : H a = some (.dK kvs)) (hl : kvs.length < 100000) (h : putK kvs (Sum.inl i : Key) v = kvs') : DPut H a (.int i) v (upd H a (.dK kvs')) := h ▸ DPut.k (k := Sum.inl i) e (Nat.lt_of_lt_of_le hl big5)
theorem valV_sc {κ : Type} [DecidableEq κ] {k j : κ} {v : V} {r : List (κ × V)} : valV ((k, v) :: r) j = if k = j then some v else valV r j := by
  by_cases e : k = j
  · rw [if_pos e]; exact valV_pos e
  · rw [if_neg e]; exact valV_neg e
/-! ### the law's pen: a dict of the cells, the index of the next one, what is left -/
def penK (l : Addr) (a b : Int) : List (Key × V) := [(Sum.inr "cells", .ref l), (Sum.inr "at", .int a), (Sum.inr "left", .int b)]
theorem key_ne {x y : Str} (h : ¬ x = y) : ¬ ((Sum.inr x : Key) = Sum.inr y) := fun z => h (Sum.inr.inj z)
theorem k_ca : ¬ ((Sum.inr ("cells" : Str) : Key) = Sum.inr ("at" : Str)) := key_ne (by decide +kernel)
theorem k_cl : ¬ ((Sum.inr ("cells" : Str) : Key) = Sum.inr ("left" : Str)) := key_ne (by decide +kernel)
theorem k_al : ¬ ((Sum.inr ("at" : Str) : Key) = Sum.inr ("left" : Str)) := key_ne (by decide +kernel)
theorem pen_cells (l : Addr) (a b : Int) : valV (penK l a b) (Sum.inr "cells" : Key) = some (.ref l) := valV_pos rfl
theorem pen_at (l : Addr) (a b : Int) : valV (penK l a b) (Sum.inr "at" : Key) = some (.int a) := by
  unfold penK
  rw [valV_neg k_ca]
  exact valV_pos rfl
theorem pen_left (l : Addr) (a b : Int) : valV (penK l a b) (Sum.inr "left" : Key) = some (.int b) := by
  unfold penK
  rw [valV_neg k_cl, valV_neg k_al]
  exact valV_pos rfl
theorem pen_put_at (l : Addr) (a b z : Int) : putK (penK l a b) (Sum.inr "at" : Key) (.int z) = penK l z b := by
  have h : ((penK l a b).any fun kv => decide (kv.1 = (Sum.inr "at" : Key))) = true := by rw [valV_any, pen_at]; rfl
  unfold putK
  rw [if_pos h]
  unfold penK
  rw [List.map_cons, List.map_cons, List.map_cons, List.map_nil, if_neg k_ca, if_pos rfl, if_neg (Ne.symm k_al)]
theorem pen_put_left (l : Addr) (a b z : Int) : putK (penK l a b) (Sum.inr "left" : Key) (.int z) = penK l a z := by
  have h : ((penK l a b).any fun kv => decide (kv.1 = (Sum.inr "left" : Key))) = true := by rw [valV_any, pen_left]; rfl
  unfold putK
  rw [if_pos h]
  unfold penK
  rw [List.map_cons, List.map_cons, List.map_cons, List.map_nil, if_neg k_cl, if_neg k_al, if_pos rfl]
/-- a pen at d, its cells ns at l -/
structure PenAt (H : Hp) (d l : Addr) (ns : List Int) (a b : Int) : Prop where
  dc : H d = some (.dK (penK l a b))
  cl : H l = some (.lst (ns.map V.int))
  na : 0 ≤ a
  nb : 0 ≤ b
  len : ns.length ≤ 63
theorem PenAt.ne {H : Hp} {d l : Addr} {ns : List Int} {a b : Int} (p : PenAt H d l ns a b) : l ≠ d := ne_of p.cl p.dc (fun z => by cases z)
theorem PenAt.mono {H H' : Hp} {d l : Addr} {ns : List Int} {a b : Int} (p : PenAt H d l ns a b) (s : Same H H') : PenAt H' d l ns a b := ⟨s _ _ p.dc, s _ _ p.cl, p.na, p.nb, p.len⟩
theorem pen_small (l : Addr) (a b : Int) : (penK l a b).length < 100000 := by show 3 < 100000; decide
theorem PenAt.toAt {H : Hp} {d l : Addr} {ns : List Int} {a b z : Int} (p : PenAt H d l ns a b) (h : 0 ≤ z) : PenAt (upd H d (.dK (penK l z b))) d l ns z b := ⟨upd_same, by rw [upd_ne p.ne]; exact p.cl, h, p.nb, p.len⟩
theorem PenAt.toLeft {H : Hp} {d l : Addr} {ns : List Int} {a b z : Int} (p : PenAt H d l ns a b) (h : 0 ≤ z) : PenAt (upd H d (.dK (penK l a z))) d l ns a z := ⟨upd_same, by rw [upd_ne p.ne]; exact p.cl, p.na, h, p.len⟩
/-- all but the pen at d is as it was -/
def Kept (d : Addr) (H H' : Hp) : Prop := ∀ b o, H b = some o → b ≠ d → H' b = some o
theorem Kept.refl (d : Addr) (H : Hp) : Kept d H H := fun _ _ h _ => h
theorem Kept.trans {d : Addr} {H H1 H2 : Hp} (x : Kept d H H1) (y : Kept d H1 H2) : Kept d H H2 := fun b o h n => y b o (x b o h n) n
theorem Kept.of {d : Addr} {H H1 : Hp} (x : Same H H1) : Kept d H H1 := fun b o h _ => x b o h
theorem Kept.put {d : Addr} {H : Hp} {o : HO} : Kept d H (upd H d o) := fun b u h n => by rw [upd_ne n]; exact h
/-- the pen at d, its cells ns, after at most n draws -/
def Pen (H : Hp) (d : Addr) (ns : List Int) (n : Nat) : Prop := ∃ l a b, PenAt H d l ns a b ∧ a ≤ (n : Int)
theorem Pen.mono {H H' : Hp} {d : Addr} {ns : List Int} {n : Nat} (p : Pen H d ns n) (s : Same H H') : Pen H' d ns n := by
  obtain ⟨l, a, b, p, h⟩ := p
  exact ⟨l, a, b, p.mono s, h⟩
theorem Pen.le {H : Hp} {d : Addr} {ns : List Int} {n m : Nat} (p : Pen H d ns n) (h : n ≤ m) : Pen H d ns m := by
  obtain ⟨l, a, b, p, q⟩ := p
  exact ⟨l, a, b, p, by omega⟩
/-! ### lists and data -/
theorem dp_ints {K : PySem.W.Frag} {H : Hp} {a : Addr} {ns : List Int} (h : SqL K H a (ns.map V.int)) : Dp K H (.ref a) (.list (ns.map PyData.int)) := by
  refine .lst h ?_
  clear h
  induction ns with
  | nil => exact .nil
  | cons n r ih => exact .cons (.int n) ih
theorem eqv_nil (l : List PyData) : PyData.eqv (.list l) (.list []) = l.isEmpty := by
  cases l with
  | nil => rfl
  | cons a r => rfl
theorem lay_ints : ∀ ns : List Int, PyData.canLayAll0 (ns.map PyData.int) = true
  | [] => rfl
  | n :: r => lay_ints r
theorem depth_ints : ∀ ns : List Int, PyData.depthAll (ns.map PyData.int) = 0
  | [] => rfl
  | n :: r => by
    show max 0 (PyData.depthAll (r.map PyData.int)) = 0
    rw [depth_ints r]
    rfl
theorem shaped_ints (ns : List Int) : SeqAt.shaped (.list (ns.map PyData.int)) = true := by
  show (PyData.canLayAll0 (ns.map PyData.int) && decide (PyData.depthAll (ns.map PyData.int) + 1 ≤ 64)) = true
  rw [lay_ints, depth_ints]
  rfl
theorem dp_nil {K : PySem.W.Frag} {H : Hp} {a : Addr} (h : SqL K H a []) : Dp K H (.ref a) (.list []) := .lst h .nil
theorem x_neNil {K : PySem.W.Frag} {H : Hp} {Q : VK} {a b : Addr} {ns : List Int} (h1 : SqL K H a (ns.map V.int)) (h2 : H b = some (.lst [])) (h : Q (.bl (!ns.isEmpty)) H) : rNeD K (.ref a) (.ref b) H Q :=
  ⟨_, _, dp_ints h1, dp_nil (SqL.of h2), shaped_ints ns, by decide +kernel, by rw [eqv_nil, List.isEmpty_map]; exact h⟩
theorem x_eqNil {K : PySem.W.Frag} {H : Hp} {Q : VK} {a b : Addr} {ns : List Int} (h1 : SqL K H a (ns.map V.int)) (h2 : H b = some (.lst [])) (h : Q (.bl ns.isEmpty) H) : rEqD K (.ref a) (.ref b) H Q :=
  ⟨_, _, dp_ints h1, dp_nil (SqL.of h2), shaped_ints ns, by decide +kernel, by rw [eqv_nil, List.isEmpty_map]; exact h⟩
theorem at_mod {α : Type} {xs : List α} {i : Int} (h0 : 0 ≤ i) (h : i < (xs.length : Int)) : ∃ v, atI xs i = some v ∧ v ∈ xs := by
  have hl : i.toNat < xs.length := by omega
  refine ⟨xs[i.toNat], ?_, List.getElem_mem ..⟩
  have e : ((i.toNat : Nat) : Int) = i := by omega
  have q := atI_nat (xs := xs) (j := i.toNat) (v := xs[i.toNat]) (by simp [hl])
  rw [e] at q
  exact q
theorem Kept.seq {K : PySem.W.Frag} {H H' : Hp} {d a : Addr} {xs : List V} {l : Addr} {x y : Int} (k : Kept d H H') (hd : H d = some (.dK (penK l x y))) (h : SqL K H a xs) : SqL K H' a xs := by
  rcases h with (h | ⟨o, h⟩) | h
  · exact .inl (.inl (k _ _ h (ne_of h hd (fun z => by cases z))))
  · exact .inl (.inr ⟨o, k _ _ h (ne_of h hd (fun z => by cases z))⟩)
  · exact .inr h
theorem Pen.seq {K : PySem.W.Frag} {H H' : Hp} {d a : Addr} {xs : List V} {ns : List Int} {n : Nat} (k : Kept d H H') (p : Pen H d ns n) (h : SqL K H a xs) : SqL K H' a xs := by
  obtain ⟨l, x, y, p, _⟩ := p
  exact k.seq p.dc h
theorem x_ixSeqL {K : PySem.W.Frag} {H : Hp} {Q : VK} {a : Addr} {xs : List V} {i : Int} {v : V} (hs : SqL K H a xs) (ha : atI xs i = some v) (h : Q v H) : rIx K (.ref a) (.int i) H Q := .inl (x_ixL hs ha h)
theorem x_ixSeqS {K : PySem.W.Frag} {H : Hp} {Q : VK} {z : Str} {i : Int} {c : Nat} (hz : z.length ≤ sizeLine) (ha : atI z.cps.toList i = some c) (h : Q (.str ⟨#[c]⟩) H) : rIx K (.str z) (.int i) H Q := .inr (.inr ⟨z, i, c, rfl, rfl, hz, ha, h⟩)
section
variable {D : Ends}
theorem x_make {C : Addr} {sp : Sp} {E : XK} {t : TA} {σ : L2.St} {H : Hp} {Q : VK} (h : t σ H fun vs H1 => ∀ x dx, H1 x = none → H1 dx = none → dx ≠ x → sp (.ref x :: (vs ++ [])) (upd (upd H1 dx (.own x)) x (.ins C dx [])) (fun v H2 => v = .non ∧ Q (.ref x) H2) E) : tMake C sp [] E t σ H Q := h
theorem x_sfld {K : PySem.W.Frag} {ta tv : TE} {f : Str} {σ : L2.St} {H : Hp} {D : Ends} (h : tv σ H fun y H1 => ta σ H1 fun x H2 => ∃ a C dx fs, x = .ref a ∧ H2 a = some (.ins C dx fs) ∧ Cls K C ∧ NoAttr K C f ∧ fs.length < 1000 ∧ D.nx σ (upd H2 a (.ins C dx (putF f y fs)))) : sFld K ta tv f D σ H := h
end
theorem x_rngC {z : Int} {σ : L2.St} {H : Hp} {R : It → Hp → Prop} (h1 : -4611686018427387904 ≤ z) (h2 : z < 4611686018427387904) (h : R (Itr 0 z.toNat) H) : iRng1 (tCons (tC (.int z)) tNil) σ H R := ⟨z, rfl, h1, h2, h⟩
theorem x_rngO {te : TE} {σ : L2.St} {H : Hp} {R : It → Hp → Prop} (h : tCons te tNil σ H fun vs H1 => ∃ j : Int, vs = [.int j] ∧ -(2 ^ 62) ≤ j ∧ j < 2 ^ 62 ∧ R (Itr 0 j.toNat) H1) : iRng1 (tCons te tNil) σ H R := h
theorem x_cT {b : Bool} {A B : Prop} (e : b = true) (h : A) : if b = true then A else B := by rw [if_pos e]; exact h
theorem x_cF {b : Bool} {A B : Prop} (e : b = false) (h : B) : if b = true then A else B := by rw [e, if_neg Bool.false_ne_true]; exact h
theorem x_inL {K : PySem.W.Frag} {p : Addr} {xs : List V} {x : V} {H : Hp} {Q : VK} (hs : SqL K H p xs) (fx : flatV x = true) (fs : xs.all flatV = true) (h : Q (.bl (inV x xs)) H) : rIn K false x (.ref p) H Q := ⟨p, xs, rfl, .inl hs, fx, fs, h⟩
theorem x_inT {K : PySem.W.Frag} {p : Addr} {xs : List V} {x : V} {H : Hp} {Q : VK} (hs : SqT K H p xs) (fx : flatV x = true) (fs : xs.all flatV = true) (h : Q (.bl (inV x xs)) H) : rIn K false x (.ref p) H Q := ⟨p, xs, rfl, .inr hs, fx, fs, h⟩
theorem x_notInL {K : PySem.W.Frag} {p : Addr} {xs : List V} {x : V} {H : Hp} {Q : VK} (hs : SqL K H p xs) (fx : flatV x = true) (fs : xs.all flatV = true) (h : Q (.bl (!inV x xs)) H) : rIn K true x (.ref p) H Q := ⟨p, xs, rfl, .inl hs, fx, fs, h⟩
theorem x_notInT {K : PySem.W.Frag} {p : Addr} {xs : List V} {x : V} {H : Hp} {Q : VK} (hs : SqT K H p xs) (fx : flatV x = true) (fs : xs.all flatV = true) (h : Q (.bl (!inV x xs)) H) : rIn K true x (.ref p) H Q := ⟨p, xs, rfl, .inr hs, fx, fs, h⟩
theorem inV_strs (z : Str) (l : List Str) : inV (.str z) (l.map V.str) = decide (z ∈ l) := by
  induction l with
  | nil => rfl
  | cons a r ih =>
    show (eqV (.str a) (.str z) || inV (.str z) (r.map V.str)) = _
    rw [ih]
    show ((a == z) || decide (z ∈ r)) = _
    by_cases h : a = z
    · subst h
      simp
    · have e : (a == z) = false := by simpa using h
      rw [e]
      simp [List.mem_cons, Ne.symm h]
/-- a wish that a walk leaves closed -/
structure Hold (p : Prop) : Prop where
  h : p
/-! ### texts -/
theorem parts_len : ∀ (S L : List Nat) (k : Nat) (acc : List Nat), (TL.spl S k acc L).length ≤ L.length + 1
  | S, [], k, acc => by rw [TL.spl_nil]; simp
  | S, c :: r, 0, acc => by
    by_cases h : TL.pre S (c :: r) = true
    · rw [TL.spl_hit h]
      have := parts_len S r (S.length - 1) []
      simp only [List.length_cons]
      omega
    · rw [TL.spl_miss (by simpa using h)]
      have := parts_len S r 0 (acc ++ [c])
      simp only [List.length_cons]
      omega
  | S, c :: r, k + 1, acc => by
    have := parts_len S r k acc
    have e : TL.spl S (k + 1) acc (c :: r) = TL.spl S k acc r := rfl
    rw [e]
    simp only [List.length_cons]
    omega
theorem parts_le : ∀ (S L : List Nat) (k : Nat) (acc : List Nat), ∀ p ∈ TL.spl S k acc L, p.length ≤ acc.length + L.length
  | S, [], k, acc => by rw [TL.spl_nil]; simp
  | S, c :: r, 0, acc => by
    by_cases h : TL.pre S (c :: r) = true
    · rw [TL.spl_hit h]
      intro p hp
      rcases List.mem_cons.mp hp with rfl | hp
      · omega
      · have := parts_le S r (S.length - 1) [] p hp
        simp only [List.length_cons, List.length_nil] at this ⊢
        omega
    · rw [TL.spl_miss (by simpa using h)]
      intro p hp
      have := parts_le S r 0 (acc ++ [c]) p hp
      simp only [List.length_append, List.length_cons, List.length_nil] at this ⊢
      omega
  | S, c :: r, k + 1, acc => by
    have e : TL.spl S (k + 1) acc (c :: r) = TL.spl S k acc r := rfl
    rw [e]
    intro p hp
    have := parts_le S r k acc p hp
    simp only [List.length_cons]
    omega
theorem split_le {x y : Str} (hy : TL.tl y ≠ []) (h : y.cps.all (· < 256) = true) {p : Str} (hp : p ∈ PySem.Txt.split x y) : p.length ≤ x.length := by
  have e := TL.split_spl x y hy (TL.kind_ok h)
  have hm : TL.tl p ∈ (PySem.Txt.split x y).map TL.tl := List.mem_map.mpr ⟨p, hp, rfl⟩
  rw [e] at hm
  have := parts_le _ _ _ _ _ hm
  rw [TL.len_tl, TL.len_tl]
  simpa using this
theorem split_len (x y : Str) (hy : TL.tl y ≠ []) (h : y.cps.all (· < 256) = true) : (PySem.Txt.split x y).length ≤ x.length + 1 := by
  have e := TL.split_spl x y hy (TL.kind_ok h)
  have l := congrArg List.length e
  rw [List.length_map] at l
  rw [l, TL.len_tl]
  exact parts_len _ _ _ _
end MP
end
section
namespace MP
open PySem L2
def topS (i : Nat) : Stmt := PySem.Challenge.pw_modeplaces_k02_wrong_words_anywhere.main.body.getD i (.Pass ⟨0, 0, 0, 0⟩)
end MP
end
section
open PySem L2 MPX MP
local macro_rules | `(tactic| walk_at "rd1") => `(tactic| first
  | with_reducible refine x_seq ?_
  | with_reducible refine x_next ?_
  | with_reducible refine x_ret ?_
  | with_reducible refine x_retN ?_
  | with_reducible refine x_ifs ?_
  | with_reducible refine x_asg ?_
  | with_reducible refine x_drop ?_
  | with_reducible refine x_name ?_
  | ((with_reducible refine' x_var ?vv ?_); (case vv => exact rfl))
  | with_reducible refine x_c ?_
  | with_reducible refine x_op ?_
  | with_reducible refine x_un ?_
  | with_reducible refine x_test ?_
  | with_reducible refine x_tB ?_
  | with_reducible refine x_and ?_
  | with_reducible refine x_or ?_
  | with_reducible refine x_not ?_
  | with_reducible refine x_andV ?_
  | with_reducible refine x_orV ?_
  | with_reducible refine x_notV ?_
  | with_reducible refine x_if ?_
  | with_reducible refine x_nil ?_
  | with_reducible refine x_cons ?_
  | with_reducible refine x_tup ?_
  | with_reducible refine x_lst ?_
  | with_reducible refine x_cb ?_
  | with_reducible refine x_call ?_
  | with_reducible refine x_callS ?_
  | with_reducible refine x_callP ?_
  | with_reducible refine x_mk0 ?_
  | with_reducible refine x_mk1 ?_
  | with_reducible refine x_mk2 ?_
  | with_reducible refine x_make ?_
  | with_reducible refine x_sfld ?_
  | with_reducible refine x_m0 ?_
  | with_reducible refine x_m1 ?_
  | with_reducible refine x_bm0 ?_
  | with_reducible refine x_bm ?_
  | with_reducible refine x_par ?_
  | with_reducible refine x_ilist ?_
  | with_reducible refine x_itup ?_
  | with_reducible refine x_istr ?_
  | ((with_reducible show tLc _ _ _ _ _ _ _ _); unfold tLc)
  | ((with_reducible show tFor _ _ _ _ _ _); unfold tFor)
  | ((with_reducible refine' x_eq ?vv ?_); (case vv => exact rfl))
  | ((with_reducible refine' x_ne ?vv ?_); (case vv => exact rfl))
  | with_reducible refine x_rI0 ?_
  | with_reducible refine x_dget ?_
  | with_reducible refine x_dput ?_
  | with_reducible refine x_dnew ?_
  | with_reducible refine x_dget1 ?_
  | with_reducible refine x_dget2 ?_
  | with_reducible refine x_sl ?_
  | with_reducible refine x_nopart ?_
  | with_reducible refine x_part ?_
  | ((with_reducible refine' x_slL ?vv ?_); (case vv => (with_reducible assumption)))
  | with_reducible refine x_disp ?_
  | with_reducible refine x_pcons ?_
  | with_reducible refine x_pnil ?_
  | ((with_reducible refine' x_mod ?vv ?_); (case vv => omega); intro r er hr0 hr1; (try clear er))
  | ((with_reducible refine' x_rI ?vv ?_); (case vv => walk_at "sc"))
  | (with_reducible refine Or.inl (Exists.intro _ (And.intro rfl ?_)))
  | with_reducible refine x_T ?_
  | with_reducible refine x_F ?_
  | ((with_reducible show Exists (α := V) _); (with_reducible apply Exists.intro))
  | ((with_reducible show Exists (α := Bool) _); (with_reducible apply Exists.intro))
  | ((with_reducible show Exists (α := Nat) _); (with_reducible apply Exists.intro))
  | ((with_reducible show Exists (α := Int) _); (with_reducible apply Exists.intro))
  | ((with_reducible show Exists (α := List V) _); (with_reducible apply Exists.intro))
  | ((with_reducible show Exists (α := PySem.Str) _); (with_reducible apply Exists.intro))
  | ((with_reducible show Exists (α := Option V) _); (with_reducible apply Exists.intro))
  | ((with_reducible show Exists (α := Option Int) _); (with_reducible apply Exists.intro))
  | ((with_reducible show Exists (α := List (Key × V)) _); (with_reducible apply Exists.intro))
  | refine And.intro rfl ?_
  | ((with_reducible refine And.intro ?vv ?_); (case vv => (first | (with_reducible assumption) | (show _ ≤ sizeLine; decide) | exact len_ok rfl)))
  | (refine And.intro (Exists.intro _ rfl) ?_))
local macro_rules | `(tactic| walk_at "sc") => `(tactic| first
  | (with_reducible assumption)
  | exact divW (by omega) (by omega)
  | exact mulW (by omega) (by omega)
  | exact Or.inl ⟨by omega, by omega⟩
  | exact Or.inr ⟨by omega, by omega⟩
  | (show (_ : Int) ≠ 0; omega)
  | exact ⟨by decide, by decide, by decide⟩
  | decide)
local macro_rules | `(tactic| walk_at "rd") => `(tactic| repeat walk_at "rd1")
namespace MP
open PySem L2
section
variable {P : Program} {w : World} {K : PySem.W.Frag} {mg : Str → Option Value} {base : Heap}
abbrev s__law_pen : Stmt := topS 44
abbrev N__law_pen : List Str := ["_law_script"]
abbrev P__law_pen : List Str := ["_law_script"]
theorem sc__law_pen : FnScope N__law_pen P__law_pen (defScope s__law_pen) := ⟨rfl, rfl, rfl, by decide +kernel, rfl, by decide +kernel, by decide +kernel⟩
abbrev s__law_draw : Stmt := topS 45
abbrev N__law_draw : List Str := ["_law_pen_here", "_law_many", "_law_digit", "_law_at", "_law_cell", "_law_mixed"]
abbrev P__law_draw : List Str := ["_law_pen_here", "_law_many"]
theorem sc__law_draw : FnScope N__law_draw P__law_draw (defScope s__law_draw) := ⟨rfl, rfl, rfl, by decide +kernel, rfl, by decide +kernel, by decide +kernel⟩
abbrev s__law_pick : Stmt := topS 46
abbrev N__law_pick : List Str := ["_law_pen_here", "_law_items"]
abbrev P__law_pick : List Str := ["_law_pen_here", "_law_items"]
theorem sc__law_pick : FnScope N__law_pick P__law_pick (defScope s__law_pick) := ⟨rfl, rfl, rfl, by decide +kernel, rfl, by decide +kernel, by decide +kernel⟩
structure PenTxt (mg : Str → Option Value) : Prop where
  b_len : mg "len" = none
  b_int : mg "int" = none
  b_list : mg "list" = none
def sp_pen (K : PySem.W.Frag) : Sp := fun vs H Q _ => ∃ (c : Addr) (ns : List Int), vs = [.ref c] ∧ SqL K H c (ns.map V.int) ∧ ns.length ≤ 63 ∧ ∀ d H', Same H H' → H d = none → Pen H' d ns 0 → Q (.ref d) H'
theorem ok_pen {f : Addr} {fd : FuncData} (F : Fun K "_law_pen" "_law_pen" s__law_pen f fd) (T : PenTxt mg) : FnOk P w K mg base CX0 1 f fd P__law_pen (sp_pen K) := by
  refine F.ok sc__law_pen (fun vs H Q E h => ?_) (fun cdv A outer s H vs Q E hr h => ?_)
  · obtain ⟨c, ns, rfl, _⟩ := h
    rfl
  · obtain ⟨c, ns, rfl, hc, hn, k⟩ := h
    refine ⟨_, (pss_one (ps_ret (pe_disp (pps_cons pe_str (pe_callTy call_list_of (by rfl) T.b_list (by decide +kernel) (pa_cons (pe_slice sl_list (pv 0) po_none (po_some pe_int)) pa_nil)) (pps_cons pe_str pe_int (pps_cons pe_str pe_int pps_nil))) (by rfl) (by rfl) (fun z => by cases z) (by decide)))), ?_⟩
    show tRet _ _ [some (V.ref c)] H
    dsimp only [cxOf]
    walk_at "rd"
    intro p hp
    have hc1 := (same_upd (o := .dK []) hp).seq hc
    walk_at "rd"
    intro q hq
    walk_at "rd"
    refine And.intro (Or.inl (SqL.of upd_same)) ?_
    intro l hl
    walk_at "rd"
    refine And.intro (upd_new (upd_new upd_same hq) hl) ?_
    refine ⟨[(Sum.inr "cells", .ref l), (Sum.inr "at", .int 0), (Sum.inr "left", .int 0)], rfl, by show 3 ≤ 15; decide, ?_⟩
    have hp1 := (same_upd (o := HO.dK []) hp).free hq
    have sq := (same_upd (o := HO.dK []) hp).trans (same_upd (o := HO.lst (cutV (ns.map V.int) none (some 63))) hq)
    have hql : l ≠ p := (ne_of_none upd_same (same_upd hq |>.free hl)).symm
    have e1 : cutV (ns.map V.int) none (some 63) = ns.map V.int := by
      unfold cutV
      have h0 : HT.sIx (ns.map V.int).length 0 none = 0 := rfl
      have h1 : HT.sIx (ns.map V.int).length (ns.map V.int).length (some 63) = (ns.map V.int).length := by
        rw [show (63 : Int) = ((63 : Nat) : Int) from rfl, HT.sIx_nat, List.length_map]
        omega
      rw [h0, h1]
      simp only [List.drop_zero, Nat.sub_zero]
      exact List.take_length
    refine k p _ ?_ hp ⟨l, 0, 0, ⟨upd_same, ?_, Int.le_refl 0, Int.le_refl 0, hn⟩, by simp⟩
    · intro b o hb
      rw [upd_ne (ne_of_none hb hp)]
      exact upd_new (sq _ _ hb) hl
    · rw [upd_ne hql, upd_same, e1]
def PenL (H : Hp) (d l : Addr) (ns : List Int) (n : Nat) : Prop := ∃ a b, PenAt H d l ns a b ∧ a ≤ (n : Int)
theorem PenL.mono {H H' : Hp} {d l : Addr} {ns : List Int} {n : Nat} (p : PenL H d l ns n) (s : Same H H') : PenL H' d l ns n := let ⟨a, b, p, h⟩ := p; ⟨a, b, p.mono s, h⟩
theorem PenL.le {H : Hp} {d l : Addr} {ns : List Int} {n m : Nat} (p : PenL H d l ns n) (h : n ≤ m) : PenL H d l ns m := let ⟨a, b, p, q⟩ := p; ⟨a, b, p, by omega⟩
/-- a store elsewhere -/
theorem PenL.off {H : Hp} {d l : Addr} {ns : List Int} {n : Nat} {D : Addr} {o : HO} (p : PenL H d l ns n) (h1 : D ≠ d) (h2 : D ≠ l) : PenL (upd H D o) d l ns n := let ⟨a, b, p, q⟩ := p; ⟨a, b, ⟨by rw [upd_ne (Ne.symm h1)]; exact p.dc, by rw [upd_ne (Ne.symm h2)]; exact p.cl, p.na, p.nb, p.len⟩, q⟩
theorem PenL.ne {H : Hp} {d l : Addr} {ns : List Int} {n : Nat} {D : Addr} (p : PenL H d l ns n) (h : H D = none) : D ≠ d ∧ D ≠ l := let ⟨a, b, p, q⟩ := p; ⟨fun z => (by rw [z, p.dc] at h; cases h), fun z => (by rw [z, p.cl] at h; cases h)⟩
def sp_draw : Sp := fun vs H Q _ => ∃ (d l : Addr) (many : Int) (ns : List Int) (n : Nat), vs = [.ref d, .int many] ∧ PenL H d l ns n ∧ n < 1000000000 ∧ 0 < many ∧ many < 1000000000 ∧ ∀ z H', 0 ≤ z → z < many → Kept d H H' → PenL H' d l ns (n + 1) → Q (.int z) H'
theorem ok_draw {f : Addr} {fd : FuncData} (F : Fun K "_law_draw" "_law_draw" s__law_draw f fd) (T : PenTxt mg) : FnOk P w K mg base CX0 1 f fd P__law_draw sp_draw := by
  refine F.ok sc__law_draw (fun vs H Q E h => ?_) (fun cdv A outer s H vs Q E hr h => ?_)
  · obtain ⟨d, l, many, ns, n, rfl, _⟩ := h
    rfl
  · obtain ⟨d, l, many, ns, n, rfl, ⟨a, b, p, ha⟩, hn, hm, hm2, k⟩ := h
    have hu := hu_of hr
    refine ⟨_, (pss_cons (ps_if (pt_cmpR op_ge (pe_dget hu (pv 0) pe_str (fun _ _ => rfl)) (pv 1) (nomark _)) (pss_cons (ps_set (i := 2) sc__law_draw.nd rfl (Or.inl rfl) (pe_op op_modN (pe_callTy call_int1 (by rfl) T.b_int (by decide +kernel) (pa_cons (pe_dget hu (pv 0) pe_str (fun _ _ => rfl)) pa_nil)) (pv 1)))
      (pss_cons (ps_dput hu (pv 0) pe_str (pe_op op_fdivW (pe_dget hu (pv 0) pe_str (fun _ _ => rfl)) (pv 1)) rfl)
      (pss_one (ps_ret (pv 2))))) pss_nil)
      (pss_cons (ps_set (i := 3) sc__law_draw.nd rfl (Or.inl rfl) (pe_dget hu (pv 0) pe_str (fun _ _ => rfl)))
      (pss_cons (ps_dput hu (pv 0) pe_str (pe_op op_add (pv 3) pe_int) rfl)
      (pss_cons (ps_set (i := 4) sc__law_draw.nd rfl (Or.inl rfl) (pe_op op_add (pe_op op_mulW pe_int (pv 3)) pe_int))
      (pss_word (ps_if (pt_cmpR (op_neD hr.units) (pe_dget hu (pv 0) pe_str (fun _ _ => rfl)) (pe_lst pa_nil) (nomark _)) (pss_one (ps_set (i := 4) sc__law_draw.nd rfl (Or.inl rfl) (pe_ix ix_list (pe_dget hu (pv 0) pe_str (fun _ _ => rfl)) (pe_op op_modN (pe_callTy call_int1 (by rfl) T.b_int (by decide +kernel) (pa_cons (pv 3) pa_nil)) (pe_callB call_len_seq (by rfl) T.b_len (by decide +kernel) (pa_cons (pe_dget hu (pv 0) pe_str (fun _ _ => rfl)) pa_nil))) (fun _ _ => rfl)))) pss_nil)
      (pss_cons (ps_if (PW.pt (pw_and (pt_cmpR op_lt (pv 3) (pe_callB call_len_seq (by rfl) T.b_len (by decide +kernel) (pa_cons (pe_dget hu (pv 0) pe_str (fun _ _ => rfl)) pa_nil)) (nomark _)) (pw_and1 (pt_cmpR op_ge (pv 4) (pe_op op_pow pe_int pe_int) (nomark _))))) (pss_cons (ps_dput hu (pv 0) pe_str (pe_op op_fdivW (pe_op op_sub (pv 4) (pe_op op_pow pe_int pe_int)) (pv 1)) rfl)
      (pss_one (ps_ret (pe_op op_modN (pe_callTy call_int1 (by rfl) T.b_int (by decide +kernel) (pa_cons (pe_op op_sub (pv 4) (pe_op op_pow pe_int pe_int)) pa_nil)) (pv 1))))) pss_nil)
      (pss_cons (ps_set (i := 5) sc__law_draw.nd rfl (Or.inl rfl) (pe_op op_add (pe_op op_add (pe_op op_add (pe_op op_mulW (pe_op op_modN (pe_callTy call_int1 (by rfl) T.b_int (by decide +kernel) (pa_cons (pv 4) pa_nil)) pe_int) pe_int) (pe_op op_mulW (pe_op op_mulW pe_int (pv 3)) (pv 3))) (pe_op op_mulW pe_int (pv 3))) pe_int))
      (pss_cons (ps_set (i := 5) sc__law_draw.nd rfl (Or.inl rfl) (pe_op op_modN (pe_callTy call_int1 (by rfl) T.b_int (by decide +kernel) (pa_cons (pv 5) pa_nil)) pe_int))
      (pss_cons (ps_set (i := 5) sc__law_draw.nd rfl (Or.inl rfl) (pe_op op_modN (pe_callTy call_int1 (by rfl) T.b_int (by decide +kernel) (pa_cons (pe_op op_mulW (pv 5) (pe_op op_add (pv 5) pe_int)) pa_nil)) pe_int))
      (pss_one (ps_ret (pe_op op_modN (pe_callTy call_int1 (by rfl) T.b_int (by decide +kernel) (pa_cons (pe_op op_fdivW (pe_op op_modN (pe_callTy call_int1 (by rfl) T.b_int (by decide +kernel) (pa_cons (pe_op op_mulW (pv 5) (pv 5)) pa_nil)) pe_int) pe_int) pa_nil)) (pv 1))))))))))))), ?_⟩
    show tSeq _ _ _ [some (V.ref d), some (V.int many), none, none, none, none] H
    dsimp only [cxOf]
    have g1 := dget_s p.dc (pen_cells l a b)
    have g2 := dget_s p.dc (pen_at l a b)
    have g3 := dget_s p.dc (pen_left l a b)
    walk_at "rd"
    refine x_D (fun hle => ?_) (fun hle => ?_)
    · walk_at "rd"
      refine ⟨_, rfl, dput_s p.dc (pen_small l a b) (pen_put_left l a b _), ?_⟩
      walk_at "rd"
      exact k _ _ (by assumption) (by assumption) Kept.put ⟨a, _, p.toLeft (Int.ediv_nonneg p.nb (by omega)), by omega⟩
    · walk_at "rd"
      refine ⟨_, rfl, dput_s p.dc (pen_small l a b) (pen_put_at l a b _), ?_⟩
      have p1 := p.toAt (z := a + 1) (by have := p.na; omega)
      have g1 := dget_s p1.dc (pen_cells l (a + 1) b)
      have g2 := dget_s p1.dc (pen_at l (a + 1) b)
      have g3 := dget_s p1.dc (pen_left l (a + 1) b)
      have hna := p.na
      walk_at "rd"
      refine ⟨fun σ' H' => ∃ c : Int, σ' = [some (V.ref d), some (V.int many), none, some (V.int a), some (V.int c), none] ∧ PenAt H' d l ns (a + 1) b ∧ Kept d H H', ?_, ?_⟩
      · walk_at "rd"
        intro q hq
        have p2 := p1.mono (same_upd (o := .lst []) hq)
        have g1 := dget_s p2.dc (pen_cells l (a + 1) b)
        have g2 := dget_s p2.dc (pen_at l (a + 1) b)
        have kp : Kept d H (upd (upd H d (.dK (penK l (a + 1) b))) q (.lst [])) := Kept.put.trans (Kept.of (same_upd hq))
        refine x_neNil (SqL.of (upd_new p1.cl hq)) upd_same ?_
        walk_at "rd"
        refine x_NB (fun hne => ?_) (fun hne => ?_)
        · have hl0 : 0 < ns.length := by
            cases ns with
            | nil => cases hne
            | cons x r => simp
          have hl1 : 0 < (ns.map V.int).length := by rw [List.length_map]; exact hl0
          walk_at "rd"
          refine ⟨Or.inl (SqL.of p2.cl), ?_⟩
          refine x_mod (by omega) (fun r _ hr0 hr1 => ?_)
          obtain ⟨v, hv, hmem⟩ := at_mod hr0 hr1
          obtain ⟨z, _, rfl⟩ := List.mem_map.mp hmem
          refine x_ixL (SqL.of p2.cl) hv ?_
          exact ⟨z, rfl, p2, kp⟩
        · exact ⟨41 * a + 23, rfl, p2, kp⟩
      · rintro σ' H' ⟨c, rfl, p2, kp⟩
        have g1 := dget_s p2.dc (pen_cells l (a + 1) b)
        have g3 := dget_s p2.dc (pen_left l (a + 1) b)
        have done : ∀ z : Int, 0 ≤ z → z < many → Q (V.int z) H' := fun z h0 h1 => k z H' h0 h1 kp ⟨a + 1, b, p2, by omega⟩
        walk_at "rd"
        refine ⟨Or.inl (SqL.of p2.cl), ?_⟩
        walk_at "rd"
        refine x_B (fun hlt => ?_) (fun hlt => ?_)
        · walk_at "rd"
          refine x_D (fun hle => ?_) (fun hle => ?_)
          · walk_at "rd"
            refine ⟨_, rfl, dput_s p2.dc (pen_small l _ b) (pen_put_left l _ b _), ?_⟩
            have p3 := p2.toLeft (z := (c - 10 ^ (18 : Int).toNat) / many) (Int.ediv_nonneg (Int.sub_nonneg_of_le hle) (by omega))
            walk_at "rd"
            exact k _ _ (by assumption) (by assumption) (kp.trans Kept.put) ⟨a + 1, _, p3, by omega⟩
          · walk_at "rd"
            exact done _ (by assumption) (by assumption)
        · walk_at "rd"
          exact done _ (by assumption) (by assumption)
/-- one sign of a text -/
def sp_pickS : Sp := fun vs H Q _ => ∃ (d l : Addr) (z : Str) (ns : List Int) (n : Nat), vs = [.ref d, .str z] ∧ PenL H d l ns n ∧ n < 1000000000 ∧ 0 < z.length ∧ z.length < 1000000 ∧
  ∀ c H', c ∈ z.cps.toList → Kept d H H' → PenL H' d l ns (n + 1) → Q (.str ⟨#[c]⟩) H'
theorem ok_pickS {f : Addr} {fd : FuncData} (F : Fun K "_law_pick" "_law_pick" s__law_pick f fd) (T : PenTxt mg) (c__law_draw : Cal P w K mg base 1 "_law_draw" sp_draw) : FnOk P w K mg base (L2.CX P w) 2 f fd P__law_pick sp_pickS := by
  refine F.okX sc__law_pick (fun vs H Q E h => ?_) (fun cdv A outer s H vs Q E hr h => ?_)
  · obtain ⟨d, l, z, ns, n, rfl, _⟩ := h
    rfl
  · obtain ⟨d, l, z, ns, n, rfl, p, hn, h0, h1, k⟩ := h
    refine ⟨_, (pss_one (ps_ret (pe_ix ix_seq (pv 1) (pe_cc c__law_draw hr (by decide) rfl (pa_cons (pv 0) (pa_cons (pe_callB call_len (by rfl) T.b_len (by decide +kernel) (pa_cons (pv 1) pa_nil)) pa_nil))) (fun _ _ => rfl)))), ?_⟩
    show tRet _ _ [some (V.ref d), some (V.str z)] H
    dsimp only [cxOf]
    walk_at "rd"
    refine And.intro ⟨by have : sizeLine = 16777216 := sizeLine_eq; omega, rfl⟩ ?_
    refine ⟨d, l, z.length, ns, n, rfl, p, hn, by omega, by omega, fun i H' hi0 hi1 kp p' => ?_⟩
    obtain ⟨c, hc, hm⟩ := at_mod (xs := z.cps.toList) hi0 (by simpa [Str.length] using hi1)
    exact x_ixSeqS (by have : sizeLine = 16777216 := sizeLine_eq; omega) hc (k c H' hm kp p')
end
end MP
end
section
open PySem L2 MPX MP
local macro_rules | `(tactic| walk_at "rd1") => `(tactic| first
  | with_reducible refine x_seq ?_
  | with_reducible refine x_next ?_
  | with_reducible refine x_ret ?_
  | with_reducible refine x_retN ?_
  | with_reducible refine x_ifs ?_
  | with_reducible refine x_asg ?_
  | with_reducible refine x_drop ?_
  | with_reducible refine x_name ?_
  | ((with_reducible refine' x_var ?vv ?_); (case vv => exact rfl))
  | with_reducible refine x_c ?_
  | with_reducible refine x_op ?_
  | with_reducible refine x_un ?_
  | with_reducible refine x_test ?_
  | with_reducible refine x_tB ?_
  | with_reducible refine x_and ?_
  | with_reducible refine x_or ?_
  | with_reducible refine x_not ?_
  | with_reducible refine x_andV ?_
  | with_reducible refine x_orV ?_
  | with_reducible refine x_notV ?_
  | with_reducible refine x_if ?_
  | with_reducible refine x_nil ?_
  | with_reducible refine x_cons ?_
  | with_reducible refine x_tup ?_
  | with_reducible refine x_lst ?_
  | with_reducible refine x_cb ?_
  | with_reducible refine x_call ?_
  | with_reducible refine x_callS ?_
  | with_reducible refine x_callP ?_
  | with_reducible refine x_mk0 ?_
  | with_reducible refine x_mk1 ?_
  | with_reducible refine x_mk2 ?_
  | with_reducible refine x_make ?_
  | with_reducible refine x_sfld ?_
  | with_reducible refine x_m0 ?_
  | with_reducible refine x_m1 ?_
  | with_reducible refine x_bm0 ?_
  | with_reducible refine x_bm ?_
  | with_reducible refine x_par ?_
  | with_reducible refine x_ilist ?_
  | with_reducible refine x_itup ?_
  | with_reducible refine x_istr ?_
  | ((with_reducible show tLc _ _ _ _ _ _ _ _); unfold tLc)
  | ((with_reducible show tFor _ _ _ _ _ _); unfold tFor)
  | ((with_reducible refine' x_eq ?vv ?_); (case vv => exact rfl))
  | ((with_reducible refine' x_ne ?vv ?_); (case vv => exact rfl))
  | with_reducible refine x_rI0 ?_
  | with_reducible refine x_dget ?_
  | with_reducible refine x_dput ?_
  | with_reducible refine x_dnew ?_
  | with_reducible refine x_dget1 ?_
  | with_reducible refine x_dget2 ?_
  | with_reducible refine x_sl ?_
  | with_reducible refine x_nopart ?_
  | with_reducible refine x_part ?_
  | ((with_reducible refine' x_slL ?vv ?_); (case vv => (with_reducible assumption)))
  | with_reducible refine x_disp ?_
  | with_reducible refine x_pcons ?_
  | with_reducible refine x_pnil ?_
  | ((with_reducible refine' x_mod ?vv ?_); (case vv => omega); intro r er hr0 hr1; (try clear er))
  | ((with_reducible refine' x_rI ?vv ?_); (case vv => walk_at "sc"))
  | (with_reducible refine Or.inl (Exists.intro _ (And.intro rfl ?_)))
  | with_reducible refine x_T ?_
  | with_reducible refine x_F ?_
  | ((with_reducible show Exists (α := V) _); (with_reducible apply Exists.intro))
  | ((with_reducible show Exists (α := Bool) _); (with_reducible apply Exists.intro))
  | ((with_reducible show Exists (α := Nat) _); (with_reducible apply Exists.intro))
  | ((with_reducible show Exists (α := Int) _); (with_reducible apply Exists.intro))
  | ((with_reducible show Exists (α := List V) _); (with_reducible apply Exists.intro))
  | ((with_reducible show Exists (α := PySem.Str) _); (with_reducible apply Exists.intro))
  | ((with_reducible show Exists (α := Option V) _); (with_reducible apply Exists.intro))
  | ((with_reducible show Exists (α := Option Int) _); (with_reducible apply Exists.intro))
  | ((with_reducible show Exists (α := List (Key × V)) _); (with_reducible apply Exists.intro))
  | refine And.intro rfl ?_
  | ((with_reducible refine And.intro ?vv ?_); (case vv => (first | (with_reducible assumption) | (show _ ≤ sizeLine; decide) | exact len_ok rfl)))
  | (refine And.intro (Exists.intro _ rfl) ?_))
local macro_rules | `(tactic| walk_at "sc") => `(tactic| first
  | (with_reducible assumption)
  | exact divW (by omega) (by omega)
  | exact mulW (by omega) (by omega)
  | exact Or.inl ⟨by omega, by omega⟩
  | exact Or.inr ⟨by omega, by omega⟩
  | (show (_ : Int) ≠ 0; omega)
  | exact ⟨by decide, by decide, by decide⟩
  | decide)
local macro_rules | `(tactic| walk_at "rd") => `(tactic| repeat walk_at "rd1")
namespace MP
open PySem L2
section
variable {P : Program} {w : World} {K : PySem.W.Frag} {mg : Str → Option Value} {base : Heap} {ts : Nat → Tok} {kw : Addr}
abbrev s_words_of : Stmt := topS 13
abbrev N_words_of : List Str := ["line", "word"]
abbrev P_words_of : List Str := ["line"]
theorem sc_words_of : FnScope N_words_of P_words_of (defScope s_words_of) := ⟨rfl, rfl, rfl, by decide +kernel, rfl, by decide +kernel, by decide +kernel⟩
abbrev s_is_made_of : Stmt := topS 14
abbrev N_is_made_of : List Str := ["word", "signs", "sign"]
abbrev P_is_made_of : List Str := ["word", "signs"]
theorem sc_is_made_of : FnScope N_is_made_of P_is_made_of (defScope s_is_made_of) := ⟨rfl, rfl, rfl, by decide +kernel, rfl, by decide +kernel, by decide +kernel⟩
abbrev s_is_name : Stmt := topS 15
abbrev N_is_name : List Str := ["word"]
abbrev P_is_name : List Str := ["word"]
theorem sc_is_name : FnScope N_is_name P_is_name (defScope s_is_name) := ⟨rfl, rfl, rfl, by decide +kernel, rfl, by decide +kernel, by decide +kernel⟩
abbrev s_is_price : Stmt := topS 16
abbrev N_is_price : List Str := ["word"]
abbrev P_is_price : List Str := ["word"]
theorem sc_is_price : FnScope N_is_price P_is_price (defScope s_is_price) := ⟨rfl, rfl, rfl, by decide +kernel, rfl, by decide +kernel, by decide +kernel⟩
abbrev s_item_of : Stmt := topS 17
abbrev N_item_of : List Str := ["word", "parts"]
abbrev P_item_of : List Str := ["word"]
theorem sc_item_of : FnScope N_item_of P_item_of (defScope s_item_of) := ⟨rfl, rfl, rfl, by decide +kernel, rfl, by decide +kernel, by decide +kernel⟩
def keyW : List Str := ["mode", "start", "proc", "do", "either", "or", "end", "loop", "ever", "leave", "back", "stop", "call", "set"]
def lettersS : Str := "abcdefghijklmnopqrstuvwxyz"
def digitsS : Str := "0123456789"
structure WordTxt (K : PySem.W.Frag) (mg : Str → Option Value) (ts : Nat → Tok) (kw : Addr) : Prop where
  b_len : mg "len" = none
  b_int : mg "int" = none
  g_KEYWORDS : mg "KEYWORDS" = some (.ref kw)
  g_LETTERS : mg "LETTERS" = some (.str lettersS (ts 0))
  g_DIGITS : mg "DIGITS" = some (.str digitsS (ts 1))
  g_LONGEST_NAME : mg "LONGEST_NAME" = some (.int 12 (ts 2))
  g_MOST_PRICE : mg "MOST_PRICE" = some (.int 1000000000000000000000000000000 (ts 3))
  g_MOST_DIGITS : mg "MOST_DIGITS" = some (.int 31 (ts 4))
  kwT : ∀ H, SqT K H kw (keyW.map V.str)
/-! words_of -/
def wordsOf (z : Str) : List Str := (PySem.Txt.split z " ").filter (fun w => !decide (w = ("" : Str)))
theorem wordsOf_map (l : List Str) : ((l.map V.str).filter fun v => !decide (v = V.str "")).map id = (l.filter (fun w => !decide (w = ("" : Str)))).map V.str := by
  rw [List.map_id]
  induction l with
  | nil => rfl
  | cons a r ih =>
    have e : (decide (V.str a = V.str "")) = decide (a = ("" : Str)) := by
      by_cases h : a = ("" : Str) <;> simp [h]
    rw [List.map_cons, List.filter_cons, List.filter_cons, e]
    split
    · rw [List.map_cons, ih]
    · exact ih
def sp_words_of : Sp := fun vs H Q _ => ∃ z : Str, vs = [.str z] ∧ z.length ≤ 10000 ∧ ∀ p H', Same H H' → H p = none → H' p = some (.lst ((wordsOf z).map V.str)) → Q (.ref p) H'
theorem ok_words_of {f : Addr} {fd : FuncData} (F : Fun K "words_of" "words_of" s_words_of f fd) : FnOk P w K mg base CX0 1 f fd P_words_of sp_words_of := by
  refine F.ok sc_words_of (fun vs H Q E h => ?_) (fun cdv A outer s H vs Q E hr h => ?_)
  · obtain ⟨z, rfl, _⟩ := h
    rfl
  · obtain ⟨z, rfl, hz, k⟩ := h
    refine ⟨_, (pss_one (ps_ret (pe_lc (own := [("word", 1)]) (g := gName 1) rfl sc_words_of.nd (pi_list (pe_split (pv 0) pe_str)) (blkOk_by (own := [("word", 1)]) (N := N_words_of) (sc := defScope s_words_of) (by decide +kernel)) (fun _ _ _ _ _ => (pg_name (i := 1) sc_words_of.nd rfl (Or.inl rfl))) (fun _ _ _ _ _ => (pts_one (pt_cmpR op_ne (pv 1) pe_str (nomark _)))) (fun _ _ _ _ _ => (pv 1))))), ?_⟩
    show tRet _ _ [some (V.str z), none] H
    have hl : ((PySem.Txt.split z " ").map V.str).length < 100000 := by
      have := split_len z " " (by decide +kernel) (by decide +kernel)
      rw [List.length_map]; omega
    walk_at "rd"
    refine ⟨by have := big5; omega, fun p hp => ?_⟩
    walk_at "rd"
    refine ⟨⟨_, SqL.of upd_same⟩, fun D hD => ?_⟩
    refine lc_pure (K := K) (fun v => !decide (v = V.str "")) id (SqL.of upd_same) hD hl (fun x H' acc R hx hs hacc hln h1 h2 => ?_) ?_
    · obtain ⟨y, hy, rfl⟩ := List.mem_map.mp hx
      walk_at "rd"
      refine x_B (fun h => ?_) (fun h => ?_)
      · walk_at "rd"
        exact h1 h
      · exact h2 h
    · rw [wordsOf_map]
      exact k _ _ ((same_upd hp).trans (same_upd hD)) ((same_upd hp).free hD) upd_same
/-! is_made_of -/
def madeOf (z s : Str) : Bool := z.cps.toList.all fun c => decide (c ∈ s.cps.toList)
def sp_is_made_of : Sp := fun vs H Q _ => ∃ z s : Str, vs = [.str z, .str s] ∧ z.length ≤ 10000 ∧ Q (.bl (madeOf z s)) H
theorem ok_is_made_of {f : Addr} {fd : FuncData} (F : Fun K "is_made_of" "is_made_of" s_is_made_of f fd) : FnOk P w K mg base CX0 1 f fd P_is_made_of sp_is_made_of := by
  refine F.ok sc_is_made_of (fun vs H Q E h => ?_) (fun cdv A outer s H vs Q E hr h => ?_)
  · obtain ⟨z, s, rfl, _⟩ := h
    rfl
  · obtain ⟨z, y, rfl, hz, k⟩ := h
    refine ⟨_, (pss_cons (ps_for PassesOwn.never rfl (pi_str (pv 0)) (pg_name (i := 2) sc_is_made_of.nd rfl (Or.inl rfl))
      (pss_one (ps_if (pt_cmpR op_notIn_sign (pv 2) (pv 1) rfl) (pss_one (ps_ret pe_bl)) pss_nil)))
      (pss_one (ps_ret pe_bl))), ?_⟩
    show tSeq _ _ _ [some (V.str z), some (V.str y), none] H
    walk_at "rd"
    refine for_it walk_str (fun i σ H' => Hold (∃ x, σ = [some (V.str z), some (V.str y), x] ∧ H' = H ∧ ∀ c ∈ z.cps.toList.take i, c ∈ y.cps.toList)) ⟨none, rfl, rfl, fun c hc => nomatch hc⟩ (fun _ _ _ _ _ => trivial) ?_ ?_
    · rintro i v σ H' H'' hi ⟨x, rfl, rfl, ha⟩ ⟨rfl, c, hc, rfl⟩
      have hc2 : z.cps.toList[i]? = some c := by simpa using hc
      walk_at "rd"
      refine x_NB (fun h => ?_) (fun h => ?_)
      · walk_at "rd"
        have e : madeOf z y = false := by
          unfold madeOf
          rw [List.all_eq_false]
          exact ⟨c, List.mem_of_getElem? hc2, by simpa using h⟩
        rw [← e]
        exact k
      · walk_at "rd"
        refine ⟨_, rfl, rfl, fun d hd => ?_⟩
        rw [List.take_add_one, hc2] at hd
        rcases List.mem_append.mp hd with hd | hd
        · exact ha d hd
        · rw [show d = c by simpa using hd]
          simpa using h
    · rintro σ H' ⟨x, rfl, rfl, ha⟩
      walk_at "rd"
      have e : madeOf z y = true := by
        unfold madeOf
        rw [List.all_eq_true]
        intro c hc
        have := ha c (by rw [List.take_of_length_le (by simp)]; exact hc)
        simpa using this
      rw [← e]
      exact k
/-! is_name -/
def isName (z : Str) : Bool := !(decide (z = ("" : Str)) || decide (12 < z.length) || decide (z ∈ keyW)) && madeOf z lettersS
def sp_is_name : Sp := fun vs H Q _ => ∃ z : Str, vs = [.str z] ∧ z.length ≤ 10000 ∧ Q (.bl (isName z)) H
theorem ok_is_name {f : Addr} {fd : FuncData} (F : Fun K "is_name" "is_name" s_is_name f fd) (T : WordTxt K mg ts kw) (c_is_made_of : Cal P w K mg base 1 "is_made_of" sp_is_made_of) : FnOk P w K mg base CX0 2 f fd P_is_name sp_is_name := by
  refine F.ok sc_is_name (fun vs H Q E h => ?_) (fun cdv A outer s H vs Q E hr h => ?_)
  · obtain ⟨z, rfl, _⟩ := h
    rfl
  · obtain ⟨z, rfl, hz, k⟩ := h
    refine ⟨_, (pss_cons (ps_if (PW.pt (pw_or (pt_cmpR op_eq (pv 0) pe_str (nomark _)) (pw_or (pt_cmpR op_gt (pe_callB call_len_str (by rfl) T.b_len (by decide +kernel) (pa_cons (pv 0) pa_nil)) (pe_glob (v := V.int _) rfl T.g_LONGEST_NAME ⟨_, rfl⟩) (nomark _)) (pw_or1 (pt_cmpR op_in_seq (pv 0) (pe_glob (v := V.ref _) rfl T.g_KEYWORDS rfl) rfl))))) (pss_one (ps_ret pe_bl)) pss_nil)
      (pss_one (ps_ret (pe_cc c_is_made_of hr (by decide) rfl (pa_cons (pv 0) (pa_cons (pe_glob (v := V.str _) rfl T.g_LETTERS ⟨_, rfl⟩) pa_nil)))))), ?_⟩
    show tSeq _ _ _ [some (V.str z)] H
    walk_at "rd"
    have hz2 : z.length ≤ sizeLine := Nat.le_trans hz (by decide)
    refine x_D (fun h1 => ?_) (fun h1 => ?_)
    · walk_at "rd"
      have e : isName z = false := by
        unfold isName
        rw [decide_eq_true (V.str.inj h1)]
        rfl
      rw [← e]
      exact k
    walk_at "rd"
    refine x_D (fun h2 => ?_) (fun h2 => ?_)
    · walk_at "rd"
      have e : isName z = false := by
        unfold isName
        rw [decide_eq_true (show 12 < z.length by omega)]
        simp
      rw [← e]
      exact k
    walk_at "rd"
    refine x_inT (T.kwT H) rfl rfl ?_
    walk_at "rd"
    rw [inV_strs]
    refine x_D (fun h3 => ?_) (fun h3 => ?_)
    · walk_at "rd"
      have e : isName z = false := by
        unfold isName
        rw [decide_eq_true h3]
        simp
      rw [← e]
      exact k
    walk_at "rd"
    refine ⟨z, lettersS, rfl, hz, ?_⟩
    have e : isName z = madeOf z lettersS := by
      unfold isName
      rw [decide_eq_false (fun e => h1 (by rw [e])), decide_eq_false (show ¬ 12 < z.length by omega), decide_eq_false h3]
      rfl
    rw [← e]
    exact k
/-! is_price -/
def priceOf (z : Str) : Int := (PySem.intText? z).getD 0
def isPrice (z : Str) : Bool := !(decide (z = ("" : Str)) || decide (31 < z.length) || !madeOf z digitsS || decide (z.cps.toList[0]? = some 48)) && decide (priceOf z ≤ 1000000000000000000000000000000)
theorem price_text {z : Str} (h0 : z ≠ "") (h1 : z.length ≤ 31) (h2 : madeOf z digitsS = true) : PySem.intText? z = some (priceOf z) := by
  have hd : ∀ c ∈ z.cps.toList, 48 ≤ c ∧ c ≤ 57 := fun c hc => by
    have := of_decide_eq_true (List.all_eq_true.mp h2 c hc)
    have e : digitsS.cps.toList = [48, 49, 50, 51, 52, 53, 54, 55, 56, 57] := by decide +kernel
    rw [e] at this
    simp only [List.mem_cons, List.not_mem_nil, or_false] at this
    omega
  have hz : z.cps.toList ≠ [] := fun e => h0 (by
    cases z with
    | mk a => rw [show a = #[] by simpa using e]; rfl)
  have q : ∃ n, PySem.intText? z = some n := ⟨_, PySem.intText_digits (fun c hc => hd c hc) hz (by omega)⟩
  obtain ⟨n, q⟩ := q
  unfold priceOf
  rw [q]
  rfl
def sp_is_price : Sp := fun vs H Q _ => ∃ z : Str, vs = [.str z] ∧ z.length ≤ 10000 ∧ Q (.bl (isPrice z)) H
theorem ok_is_price {f : Addr} {fd : FuncData} (F : Fun K "is_price" "is_price" s_is_price f fd) (T : WordTxt K mg ts kw) (c_is_made_of : Cal P w K mg base 1 "is_made_of" sp_is_made_of) : FnOk P w K mg base CX0 2 f fd P_is_price sp_is_price := by
  refine F.ok sc_is_price (fun vs H Q E h => ?_) (fun cdv A outer s H vs Q E hr h => ?_)
  · obtain ⟨z, rfl, _⟩ := h
    rfl
  · obtain ⟨z, rfl, hz, k⟩ := h
    refine ⟨_, (pss_cons (ps_if (PW.pt (pw_or (pt_cmpR op_eq (pv 0) pe_str (nomark _)) (pw_or (pt_cmpR op_gt (pe_callB call_len_str (by rfl) T.b_len (by decide +kernel) (pa_cons (pv 0) pa_nil)) (pe_glob (v := V.int _) rfl T.g_MOST_DIGITS ⟨_, rfl⟩) (nomark _)) (pw_or (pt_not (pt_val (pe_cc c_is_made_of hr (by decide) rfl (pa_cons (pv 0) (pa_cons (pe_glob (v := V.str _) rfl T.g_DIGITS ⟨_, rfl⟩) pa_nil))))) (pw_or1 (pt_cmpR op_eq (pe_ix ix_str (pv 0) pe_int (fun _ _ => rfl)) pe_str (nomark _))))))) (pss_one (ps_ret pe_bl)) pss_nil)
      (pss_one (ps_ret (pe_cmpR op_le (pe_callTy call_int_str (by rfl) T.b_int (by decide +kernel) (pa_cons (pv 0) pa_nil)) (pe_glob (v := V.int _) rfl T.g_MOST_PRICE ⟨_, rfl⟩) (nomark _))))), ?_⟩
    show tSeq _ _ _ [some (V.str z)] H
    walk_at "rd"
    have hz2 : z.length ≤ sizeLine := Nat.le_trans hz (by decide)
    refine x_D (fun h1 => ?_) (fun h1 => ?_)
    · walk_at "rd"
      have e : isPrice z = false := by
        unfold isPrice
        rw [decide_eq_true (V.str.inj h1)]
        rfl
      rw [← e]
      exact k
    walk_at "rd"
    refine x_D (fun h2 => ?_) (fun h2 => ?_)
    · walk_at "rd"
      have e : isPrice z = false := by
        unfold isPrice
        rw [decide_eq_true (show 31 < z.length by omega)]
        simp
      rw [← e]
      exact k
    walk_at "rd"
    refine ⟨z, digitsS, rfl, hz, ?_⟩
    walk_at "rd"
    refine x_NB (fun h3 => ?_) (fun h3 => ?_)
    · walk_at "rd"
      have e : isPrice z = false := by
        unfold isPrice
        rw [h3]
        simp
      rw [← e]
      exact k
    walk_at "rd"
    obtain ⟨c, r, hc⟩ : ∃ c r, z.cps.toList = c :: r := by
      cases e : z.cps.toList with
      | nil =>
        refine absurd ?_ h1
        cases z with
        | mk a => rw [show a = #[] by simpa using e]; rfl
      | cons c r => exact ⟨c, r, rfl⟩
    refine ⟨z, 0, c, rfl, rfl, hz2, by rw [hc]; exact atI_nat (xs := c :: r) (j := 0) rfl, ?_⟩
    walk_at "rd"
    have hs : ∀ c : Nat, (V.str ⟨#[c]⟩ = V.str "0") ↔ c = 48 := fun c => ⟨fun e => by
      have h := congrArg Str.cps (V.str.inj e)
      rw [show (Str.ofString "0").cps = #[48] by decide +kernel] at h
      have h2 : #[c] = #[48] := h
      simpa using h2, fun e => by rw [e]; decide +kernel⟩
    refine x_D (fun h4 => ?_) (fun h4 => ?_)
    · walk_at "rd"
      have e : isPrice z = false := by
        unfold isPrice
        rw [hc, (hs c).mp h4]
        simp
      rw [← e]
      exact k
    walk_at "rd"
    have h31 : z.length ≤ 31 := by omega
    have h0 : z ≠ "" := fun e => h1 (by rw [e])
    refine ⟨price_text h0 h31 h3, by omega, ?_⟩
    walk_at "rd"
    have e : isPrice z = decide (priceOf z ≤ 1000000000000000000000000000000) := by
      unfold isPrice
      rw [decide_eq_false h0, decide_eq_false (show ¬ 31 < z.length by omega), h3, hc, decide_eq_false (show ¬ (c :: r)[0]? = some 48 from fun e => h4 ((hs c).mpr (by simpa using e)))]
      simp
    rw [← e]
    exact k
/-! item_of -/
def itemP : List Str → Option (Str × Str)
  | [a, b] => if isName a && (decide (b = ("?" : Str)) || isName b) then some (a, b) else none
  | _ => none
def itemOf (z : Str) : Option (Str × Str) := itemP (PySem.Txt.split z "=")
def sp_item_of : Sp := fun vs H Q _ => ∃ z : Str, vs = [.str z] ∧ z.length ≤ 10000 ∧ (itemOf z = none → ∀ H', Same H H' → Q .non H') ∧ ∀ a b p H', itemOf z = some (a, b) → Same H H' → H' p = some (.tup [.str a, .str b]) → Q (.ref p) H'
theorem ok_item_of {f : Addr} {fd : FuncData} (F : Fun K "item_of" "item_of" s_item_of f fd) (T : WordTxt K mg ts kw) (c_is_name : Cal P w K mg base 2 "is_name" sp_is_name) : FnOk P w K mg base CX0 3 f fd P_item_of sp_item_of := by
  refine F.ok sc_item_of (fun vs H Q E h => ?_) (fun cdv A outer s H vs Q E hr h => ?_)
  · obtain ⟨z, rfl, _⟩ := h
    rfl
  · obtain ⟨z, rfl, hz, k0, k1⟩ := h
    refine ⟨_, (pss_cons (ps_set (i := 1) sc_item_of.nd rfl (Or.inl rfl) (pe_split (pv 0) pe_str))
      (pss_cons (ps_if (PW.pt (pw_or (pt_cmpR op_ne (pe_callB call_len_seq (by rfl) T.b_len (by decide +kernel) (pa_cons (pv 1) pa_nil)) pe_int (nomark _)) (pw_or1 (pt_not (pt_val (pe_cc c_is_name hr (by decide) rfl (pa_cons (pe_ix ix_list (pv 1) pe_int (fun _ _ => rfl)) pa_nil))))))) (pss_one (ps_ret pe_non)) pss_nil)
      (pss_cons (ps_if (PW.pt (pw_and (pt_cmpR op_ne (pe_ix ix_list (pv 1) pe_int (fun _ _ => rfl)) pe_str (nomark _)) (pw_and1 (pt_not (pt_val (pe_cc c_is_name hr (by decide) rfl (pa_cons (pe_ix ix_list (pv 1) pe_int (fun _ _ => rfl)) pa_nil))))))) (pss_one (ps_ret pe_non)) pss_nil)
      (pss_one (ps_ret (pe_tup (pa_cons (pe_ix ix_list (pv 1) pe_int (fun _ _ => rfl)) (pa_cons (pe_ix ix_list (pv 1) pe_int (fun _ _ => rfl)) pa_nil)))))))), ?_⟩
    show tSeq _ _ _ [some (V.str z), none] H
    walk_at "rd"
    refine ⟨by have : (100000 : Nat) ≤ sizeLine := by decide
               omega, fun p hp => ?_⟩
    generalize eH : upd H p _ = H1
    have s1 : Same H H1 := eH ▸ same_upd hp
    have e1 : H1 p = _ := eH ▸ upd_same
    clear eH
    have hle : ∀ y ∈ PySem.Txt.split z "=", y.length ≤ z.length := fun y hy => split_le (by decide +kernel) (by decide +kernel) hy
    unfold itemOf at k0 k1
    generalize PySem.Txt.split z "=" = ps at e1 hle k0 k1
    walk_at "rd"
    refine ⟨Or.inl (SqL.of e1), ?_⟩
    walk_at "rd"
    refine x_ND (fun h1 => ?_) (fun h1 => ?_)
    · walk_at "rd"
      refine k0 ?_ _ s1
      match ps, h1 with
      | [], _ => rfl
      | [_], _ => rfl
      | [_, _], h => exact absurd rfl h
      | _ :: _ :: _ :: _, _ => rfl
    have h2 : ps.length = 2 := by have := V.int.inj h1; rw [List.length_map] at this; omega
    obtain ⟨a, b, rfl⟩ : ∃ a b, ps = [a, b] := match ps, h2 with | [a, b], _ => ⟨a, b, rfl⟩
    have hla := Nat.le_trans (hle a (by simp)) hz
    have hlb := Nat.le_trans (hle b (by simp)) hz
    walk_at "rd"
    refine x_ixL (SqL.of e1) (atI_nat (j := 0) rfl) ?_
    walk_at "rd"
    refine ⟨a, rfl, hla, ?_⟩
    walk_at "rd"
    refine x_NB (fun h3 => ?_) (fun h3 => ?_)
    · walk_at "rd"
      refine k0 ?_ _ s1
      show (if isName a && _ then _ else _) = _
      rw [h3]
      rfl
    walk_at "rd"
    refine x_ixL (SqL.of e1) (atI_nat (j := 1) rfl) ?_
    walk_at "rd"
    refine x_ND (fun h4 => ?_) (fun h4 => ?_)
    · walk_at "rd"
      refine x_ixL (SqL.of e1) (atI_nat (j := 1) rfl) ?_
      walk_at "rd"
      refine ⟨b, rfl, hlb, ?_⟩
      walk_at "rd"
      refine x_NB (fun h5 => ?_) (fun h5 => ?_)
      · walk_at "rd"
        refine k0 ?_ _ s1
        show (if isName a && (decide (b = ("?" : Str)) || isName b) then _ else _) = _
        rw [h3, h5, decide_eq_false (fun e => h4 (by rw [e]))]
        rfl
      walk_at "rd"
      refine x_ixL (SqL.of e1) (atI_nat (j := 0) rfl) ?_
      walk_at "rd"
      refine x_ixL (SqL.of e1) (atI_nat (j := 1) rfl) ?_
      walk_at "rd"
      intro q nq
      refine k1 a b q _ ?_ (s1.trans (same_upd nq)) upd_same
      show (if isName a && (decide (b = ("?" : Str)) || isName b) then _ else _) = _
      rw [h3, h5]
      simp
    walk_at "rd"
    refine x_ixL (SqL.of e1) (atI_nat (j := 0) rfl) ?_
    walk_at "rd"
    refine x_ixL (SqL.of e1) (atI_nat (j := 1) rfl) ?_
    walk_at "rd"
    intro q nq
    refine k1 a b q _ ?_ (s1.trans (same_upd nq)) upd_same
    show (if isName a && (decide (b = ("?" : Str)) || isName b) then _ else _) = _
    rw [h3, decide_eq_true (V.str.inj h4)]
    rfl
end
end MP
end
section
namespace MP
open PySem PySem.Spec PyProof.Rows L2
/-! ### a dict and an empty one -/
def rNeD0 : R2 := fun x y H Q => ∃ a b ks, x = .ref a ∧ y = .ref b ∧ H a = some (.dK ks) ∧ H b = some (.dK []) ∧ Q (.bl (!ks.isEmpty)) H
theorem op_neD0 {X : Cx} (hu : X.A.units < cLine) : OpR X (compareOp .NotEq) rNeD0 := by
  intro pins s σ H x y v u Q I rx ry h
  obtain ⟨a, b, ks, rfl, rfl, ea, eb, q⟩ := h
  obtain rfl : v = Value.ref a := rx
  obtain rfl : u = Value.ref b := ry
  obtain ⟨_, ya, va, ra, da⟩ := (show ObjOk X.prog X.w H s.heap a (.dK ks) from I.hok a _ ea)
  obtain ⟨_, yb, vb, rb, db⟩ := (show ObjOk X.prog X.w H s.heap b (.dK []) from I.hok b _ eb)
  have hla : ks.length = va.length := ra.length
  have hlb : (0 : Nat) = vb.length := rb.length
  refine PySem.W.keq_ne (knd := mixKind X.prog X.w) (r := true) ya yb da db hu (fun hl => ?_) (fin_bl I q ?_)
  · rw [← hlb] at hl
    cases va with
    | nil => exact .nil
    | cons _ _ => cases hl
  · cases ks with
    | nil =>
      have e : va.length = 0 := by rw [← hla]; rfl
      rw [e, ← hlb]
      rfl
    | cons a r =>
      have e : va.length = r.length + 1 := by rw [← hla]; rfl
      rw [e, ← hlb]
      simp
theorem x_neD0 {a b : Addr} {ks : List (Key × V)} {H : Hp} {Q : VK} (ha : H a = some (.dK ks)) (hb : H b = some (.dK [])) (h : Q (.bl (!ks.isEmpty)) H) : rNeD0 (.ref a) (.ref b) H Q := ⟨a, b, ks, rfl, rfl, ha, hb, h⟩
/-! ### xs[a:b:c] of a list -/
def pickV {α : Type} (xs : List α) (lo hi st : Option Int) : List α := (sliceRange (sliceBounds lo hi st xs.length).1 (sliceBounds lo hi st xs.length).2.1 (sliceBounds lo hi st xs.length).2.2).filterMap (xs[·]?)
theorem vals_pick {xs : List V} {its : List Value} (r : Vals xs its) : ∀ ks : List Nat, Vals (ks.filterMap (xs[·]?)) (ks.filterMap (its[·]?))
  | [] => .nil
  | k :: ks => by
    have ih := vals_pick r ks
    have hl := r.length
    cases e : xs[k]? with
    | none =>
      have e2 : its[k]? = none := by
        rw [List.getElem?_eq_none_iff] at e ⊢
        omega
      rw [List.filterMap_cons_none e, List.filterMap_cons_none e2]
      exact ih
    | some x =>
      obtain ⟨u, hu, ru⟩ := r.get e
      rw [List.filterMap_cons_some e, List.filterMap_cons_some hu]
      exact .cons ru ih
def tSl3 (K : PySem.W.Frag) (te : TE) (tl th ts : TO) : TE := fun σ H Q => te σ H fun x H1 => tl σ H1 fun l H2 => th σ H2 fun u H3 => ts σ H3 fun o H4 => ∃ a xs, x = V.ref a ∧ SqL K H4 a xs ∧ o ≠ some 0 ∧ (pickV xs l u o).length ≤ sizeLine ∧ ∀ p, H4 p = none → Q (.ref p) (upd H4 p (.lst (pickV xs l u o)))
theorem pe_slice3 {X : Cx} {e st : Expr} {lo hi : Option Expr} {te : TE} {tl th ts : TO} {p2 pos : Pos} (he : PE X e te) (hl : PO X lo tl) (hh : PO X hi th) (hs : PO X (some st) ts)
    (htail : ∀ (v u : Value), subscripted (.Slice lo hi (some st) p2) false v u = operate [v, u] (getItem v u) := by intro _ _; rfl) : PE X (.Subscript e (.Slice lo hi (some st) p2) pos) (tSl3 X.K te tl th ts) := by
  refine ⟨fun pins s σ H Q I h => ?_⟩
  refine Subscript_ (thn (he.run pins s σ H _ I h) fun v s1 ⟨x, H1, I1, r1, q1⟩ => ?_)
  refine wpAny_Slice (thn (hl.run pins s1 σ H1 _ I1 q1) fun vl s2 ⟨l, H2, I2, pl, q2⟩ => thn (hh.run pins s2 σ H2 _ I2 q2) fun vu s3 ⟨u, H3, I3, pu, q3⟩ => thn (hs.run pins s3 σ H3 _ I3 q3) fun vs s4 ⟨o, H4, I4, ps, q4⟩ => ?_)
  obtain ⟨a, xs, ex, hx, h0, hz, q⟩ := q4
  subst ex
  cases r1
  have I5 : Inv X pins σ H4 { s4 with heap := s4.heap.push { cls := .type "slice", data := .fields #[vl, vu, vs] } } := I4.kept (t' := s4.toks) fun b ob q => Heap.get?_push_of_some _ q
  obtain ⟨its, r, ht, hz2⟩ := I5.list hx
  have hlen := r.length
  show wpAny (model X.prog X.w) X.A (subscriptTail e (.Slice lo hi (some st) p2) (.ref a) (.ref s4.heap.objs.size)) (EP X pins σ Q) X.xe { s4 with heap := s4.heap.push { cls := .type "slice", data := .fields #[vl, vu, vs] } }
  refine tail_any (ops := [.ref a, .ref s4.heap.objs.size]) ht.isList.typeIs (PySem.slot_list_getitem.lookup) ?_ (by with_unfolding_all rfl)
  refine wpAny_getItem_list_slice ht.isList (Heap.IsSliceOf.new _ vl vu vs) pl pu ps h0 ?_ (by rw [List.size_toArray]; omega)
  have e : slicePick its.toArray l u o = ((sliceRange (sliceBounds l u o xs.length).1 (sliceBounds l u o xs.length).2.1 (sliceBounds l u o xs.length).2.2).filterMap (its[·]?)).toArray := by
    unfold slicePick
    rw [List.size_toArray, ← hlen]
    simp
  rw [e]
  refine ⟨.ref _, _, I5.laid (t' := s4.toks) (o := .lst (pickV xs l u o)) (fun b ob q => Heap.get?_push_of_some _ q) (Nat.le_refl _) ?_, rfl, q _ (I5.hok.fresh (Nat.le_refl _))⟩
  exact ⟨hz, _, 0, vals_pick r _, Heap.get?_push_size _ rfl⟩
/-! ### enumerate(list, start=c) -/
theorem draws_stop {prog : Program} {w : World} {A : Around} (hh : A.handled = none) {it l : Addr} {i : Nat} {items : Array Value} (hx : items[i]? = none) :
    Draws prog w A it [it, l] i (fun _ _ => False) (fun j h => j = i ∧ h.IsListIter it l i ∧ h.IsList l items) where
  live := fun _ _ st => let ⟨o, ho, _⟩ := st.2.1; ⟨o, ho⟩
  frame := fun _ _ _ st hk => ⟨st.1, st.2.1.at fun o e => hk it (by simp) o e, st.2.2.at fun o e => hk l (by simp) o e⟩
  item := fun j s Q E hi st _ => absurd st.1 (Nat.ne_of_lt hi)
  done := fun s Q E st hE => wpAny_nextOf_list_end hh st.2.1 st.2.2 hx hE
def IteS (K : PySem.W.Frag) (a : Addr) (c : Int) : It :=
  ⟨fun i H => ∃ (xs : List V) (x : V), SqL K H a xs ∧ xs[i]? = some x, fun i H v H' => ∃ T x, v = .ref T ∧ H T = none ∧ H' = upd H T (.tup [.int ((i : Nat) + c), x]) ∧ ∀ xs, SqL K H a xs → xs[i]? = some x, fun i H => ∃ xs : List V, SqL K H a xs ∧ xs.length ≤ i⟩
theorem turn_enumS {P : Program} {w : World} {K : PySem.W.Frag} {elts : List Expr} {kk : Nat} {tpos : Pos} (a e it : Addr) (c : Int) :
    Turn P w K (.Tuple elts kk tpos) (IteS K a c) [e, it] e (fun i h => (∃ old, IsEnum h e it ((i : Nat) + c) old) ∧ h.IsListIter it a i ∧ e ≠ it) where
  mem := by simp
  obj := fun i h st b hb => by
    obtain ⟨⟨old, he⟩, ⟨o, ho, hc, hd⟩, _⟩ := st
    have e' : b = e ∨ b = it := by simpa using hb
    rcases e' with z | z
    · rw [z]; exact ⟨_, he, fun v q => nomatch q⟩
    · rw [z]; exact ⟨o, ho, fun v q => by rw [hd] at q; cases q⟩
  keep := fun i h h' st k => let ⟨⟨old, he⟩, hi, hne⟩ := st; ⟨⟨old, k e (by simp) _ he⟩, hi.at fun o q => k it (by simp) o q, hne⟩
  item := by
    intro X hP hw hK hc i pins s σ H E I hf st hg
    subst hP hw hK
    obtain ⟨⟨old, he⟩, hit, hne⟩ := st
    obtain ⟨xs, x, hq, hx⟩ := hg
    obtain ⟨its, rv, p, hz⟩ := I.list hq
    obtain ⟨u, hu, ru⟩ := rv.get hx
    have hel : e < s.heap.objs.size := Heap.lt_size he
    have hil : it < s.heap.objs.size := by obtain ⟨_, q, _⟩ := hit; exact Heap.lt_size q
    have hh : X.A.in1.handled = none := I.ok.hd hc
    have hal : a ≠ it := fun z => by
      obtain ⟨o1, q1, c1, d1⟩ := hit
      obtain ⟨o2, q2, c2, d2⟩ := p.isList
      rw [← z, q2] at q1
      cases q1
      rw [c2] at c1
      exact absurd c1 (by decide)
    have hea : e ∉ [it, a] := fun z => by
      rcases List.mem_cons.mp z with z | z
      · exact hne z
      · have z := List.mem_singleton.mp z
        obtain ⟨o2, q2, c2, d2⟩ := p.isList
        rw [← z, he] at q2
        cases q2
        have c3 : Value.type "enumerate" = Value.type "list" := c2
        exact absurd c3 (by decide)
    have hiz : i < its.toArray.size := by
      have := (List.getElem?_eq_some_iff.mp hu).1
      simpa using this
    refine wpAny_pyNext_enum_itemC (Draws.list hh it a hal its.toArray) he ⟨hit, p.isList⟩ hiz hne hea fun y h' tk hy ho hit' hT hsz hk => ?_
    have hyu : u = y := by
      have q : its.toArray[i]? = some y := hy
      rw [show its.toArray[i]? = its[i]? by simp, hu] at q
      exact Option.some.inj q
    subst hyu
    refine ⟨_, rfl, wpAny_letOwnedTupleGo_enum (s := { s with heap := h', toks := tk + 1 }) ho fun h'' he' sb => ?_⟩
    have hT2 : h''.get? s.heap.objs.size = some { cls := .type "tuple", data := .seq #[.int ((i : Nat) + c) tk, u] } := (sb.2 _ (Nat.ne_of_gt hel)).trans hT
    have new : ObjOk X.prog X.w (upd H s.heap.objs.size (.tup [.int ((i : Nat) + c), x])) h'' s.heap.objs.size (.tup [.int ((i : Nat) + c), x]) :=
      ⟨by show 2 ≤ sizeLine; decide, [.int ((i : Nat) + c) tk, u], .cons ⟨_, rfl⟩ (.cons ru .nil), ⟨_, hT2, rfl, _, rfl⟩⟩
    have I1 : Inv X pins σ (upd H s.heap.objs.size (.tup [.int ((i : Nat) + c), x])) { s with heap := h'', toks := tk + 1 } :=
      I.turnedNew (ch := [e, it]) (fun b ob hb q => (sb.2 b (fun z => hb (by simp [z]))).trans (hk b ob (fun z => hb (by simp [z])) (fun z => hb (by simp [z])) q)) hf (Nat.le_refl _) new
    refine ⟨.ref s.heap.objs.size, _, I1, rfl, ⟨_, x, rfl, I.hok.fresh (Nat.le_refl _), rfl, fun ys hy => by rw [I.list_inj hy hq]; exact hx⟩, ⟨⟨u, ?_⟩, hit'.1.at fun o q => (sb.2 it (Ne.symm hne)).trans q, hne⟩, fun b hb => ?_⟩
    · have e1 : ((i + 1 : Nat) : Int) + c = (i : Int) + c + 1 := by omega
      rw [e1]; exact he'
    · have hb' : b < s.heap.objs.size := by
        have e' : b = e ∨ b = it := by simpa using hb
        rcases e' with z | z
        · rw [z]; exact hel
        · rw [z]; exact hil
      rw [upd_ne (Nat.ne_of_lt hb')]
      exact (hf b hb).1
  done := by
    intro X hP hw hK hc i pins s σ H E I hf st hg
    subst hP hw hK
    obtain ⟨⟨old, he⟩, hit, hne⟩ := st
    obtain ⟨xs, hq, hx⟩ := hg
    obtain ⟨its, rv, p, hz⟩ := I.list hq
    obtain ⟨f0, f1, f2, f3, f4, f5⟩ := hf it (by simp)
    have hl := rv.length
    have hh : X.A.in1.handled = none := I.ok.hd hc
    have hie : its.toArray[i]? = none := by rw [Array.getElem?_eq_none_iff, List.size_toArray]; omega
    have D := draws_stop (prog := X.prog) (w := X.w) hh hie (it := it) (l := a)
    have st : i = i ∧ s.heap.IsListIter it a i ∧ s.heap.IsList a its.toArray := ⟨rfl, hit, p.isList⟩
    exact wpAny_pyNext_enum_endD D he st fun h' eb => ⟨rfl, I.turned (t' := s.toks) (fun b o hb q => eb b o hb q) f0 f1 f3 f4 f5⟩
  self := fun A i s Q E st h => let ⟨⟨_, he⟩, _⟩ := st; wpAny_pyIter_enum he h
section
variable {M : Model} {A : Around} {E : Value → Shared → Prop} {s : Shared} {env : Env}
theorem callWith_tyKw {pos : Pos} {T : String} {e : Expr} {rest : List Expr} {kws : List Keyword} {Q : Value → Shared → Prop}
    (h : wpAny M A (spliced (backTo pos (starEach (e :: rest) env))) (fun vs s₁ => wpAny M A (evalAll ((backToKw pos (keywordEach kws env)).map (·.2)))
      (fun kvs s₂ => wpAny M A (call (.type T) vs (((backToKw pos (keywordEach kws env)).filterMap (·.1)).zip kvs)) Q E s₂) E s₁) E s)
    (he : backTo pos (starEach (e :: rest) env) = (false, eval e env) :: backTo pos (starEach rest env) := by rfl)
    (hplain : (backTo pos (starEach (e :: rest) env)).any (·.1) = false := by rfl)
    (hall : (backToKw pos (keywordEach kws env)).all (·.1.isSome) = true := by rfl)
    (hkw : (backToKw pos (keywordEach kws env)).any (·.1.isNone) = false := by rfl) :
    wpAny M A (callWith pos (.type T) [] (backTo pos (starEach (e :: rest) env)) (backToKw pos (keywordEach kws env))) Q E s := by
  have ha : wpAny M A (evalArgs (.type T) true (backTo pos (starEach (e :: rest) env)) (backToKw pos (keywordEach kws env))) (fun a s₁ => wpAny M A (call (.type T) ([] ++ a.pos) a.kw) Q E s₁) E s := by
    rw [he] at h ⊢
    exact evalArgs_kwB hall h
  unfold callWith
  refine wpAny_bind (wpAny_holding (wpAny_mono ha (fun a s₁ h₁ => wpAny_bind (wpAny_standAt ?_)) fun _ _ x => x))
  simp only [hplain, hkw, Bool.or_false]
  refine wpAny_bind (wpAny_pure ?_)
  exact wpAny_bind (wpAny_mono h₁ (fun r s₂ hr => wpAny_bind (wpAny_holding (wpAny_point (wpAny_pure hr)))) fun _ _ x => x)
end
def iEnumS (K : PySem.W.Frag) (c : Int) (ta : TA) : TI := fun σ H R => ta σ H fun vs H1 => ∃ a xs, vs = [.ref a] ∧ SqL K H1 a xs ∧ R (IteS K a c) H1
theorem pi_enumS {X : Cx} {e : Expr} {ta : TA} {c : Int} {j : Nat} {p pos tpos kp cp : Pos} {elts : List Expr} {kk : Nat} (hg : Gl X "enumerate") (hm : X.mg "enumerate" = none) (ha : PA X [e] ta) (h0 : -(2 ^ 63) ≤ c) (h1 : c < 2 ^ 63) (hn : (0 : Int) ≤ c)
    (hs : backTo pos (starEach [e] X.env) = (false, eval e X.env) :: backTo pos (starEach [] X.env) := by rfl) (hp : (backTo pos (starEach [e] X.env)).any (·.1) = false := by rfl) :
    PI X (.Tuple elts kk tpos) (.Call (.Name "enumerate" p) [e] [⟨some "start", .Constant (.int c) j cp, kp⟩] pos) (iEnumS X.K c ta) := by
  refine ⟨fun pins s σ H R I h => ?_⟩
  show wpAny _ _ (eval (.Call (.Name "enumerate" p) [e] [⟨some "start", .Constant (.int c) j cp, kp⟩] pos) X.env) _ _ _
  refine wpAny_Call_Name_kw (ld_blt I hg hm boot_enumerate ?_)
  refine callWith_tyKw (thn (ha.run pos pins s σ H _ I h) fun us s1 ⟨vs, H1, I1, r1, q1⟩ => ?_) hs hp
  obtain ⟨a, xs, ex, hq, q⟩ := q1
  subst ex
  refine kws_cons (thn ((pe_int (X := X)).run pins s1 σ H1 (fun v H2 => v = .int c ∧ H2 = H1) I1 ⟨rfl, rfl⟩) fun v s2 ⟨x, H2, I2, rx, ex, e2⟩ => kws_nil ?_)
  subst ex e2
  obtain ⟨t, rfl⟩ := rx
  cases r1 with
  | cons r rr =>
    cases rr
    cases r
    obtain ⟨its, rv, p', hz⟩ := I2.list hq
    refine enum_begins_start (begins_list a its.toArray) p'.isList h0 h1 fun h' he hit hsz hk => wpAny_pyIter_enum he ?_
    have I3 : Inv X pins σ H2 { s2 with heap := h' } := I2.kept (t' := s2.toks) hk
    refine ⟨s2.heap.objs.size + 1, [s2.heap.objs.size + 1, s2.heap.objs.size], _, _, H2, rfl, I3, turn_enumS a (s2.heap.objs.size + 1) s2.heap.objs.size c, ⟨⟨.none, ?_⟩, ⟨_, hit, rfl, rfl⟩, Nat.succ_ne_self _⟩, fun b hb => ?_, q⟩
    · have e0 : ((0 : Nat) : Int) + c = c := by omega
      rw [e0]
      exact he
    have e' : b = s2.heap.objs.size + 1 ∨ b = s2.heap.objs.size := by simpa using hb
    have hle : s2.heap.objs.size ≤ b := by
      rcases e' with z | z
      · rw [z]; exact Nat.le_add_right _ _
      · rw [z]; exact Nat.le_refl _
    exact I2.fpOk hle (I2.hok.fresh hle)
theorem walk_enumS {K : PySem.W.Frag} {a : Addr} {xs : List V} {c : Int} : Walk (IteS K a c) xs.length (fun H => SqL K H a xs) (YPair (fun i => some (.int ((i : Nat) + c))) (fun i => xs[i]?)) := by
  refine ⟨fun i _ hi q => ⟨xs, xs[i], q, by simp [hi]⟩, fun _ q => ⟨xs, q, Nat.le_refl _⟩, fun i H v H' _ q y => ?_⟩
  obtain ⟨T, x, h1, h2, h3, h4⟩ := y
  exact ⟨T, .int ((i : Nat) + c), x, h1, h2, h3, rfl, h4 xs q⟩
end MP
end
section
namespace MP
open PySem L2
/-! ### tables: keys that are texts or numbers -/
def kS {α : Type} (f : α → V) (l : List (Str × α)) : List (Key × V) := l.map fun x => ((Sum.inr x.1 : Key), f x.2)
def kI {α : Type} (f : α → V) (l : List (Int × α)) : List (Key × V) := l.map fun x => ((Sum.inl x.1 : Key), f x.2)
def look {κ α : Type} [DecidableEq κ] : List (κ × α) → κ → Option α
  | [], _ => none
  | x :: r, k => if x.1 = k then some x.2 else look r k
theorem valV_kS {α : Type} (f : α → V) (k : Str) : ∀ l : List (Str × α), valV (kS f l) (Sum.inr k : Key) = (look l k).map f
  | [] => rfl
  | x :: r => by
    unfold look
    by_cases e : x.1 = k
    · rw [if_pos e]
      exact valV_pos (by show (_ : Key) = _; exact congrArg _ e)
    · rw [if_neg e, ← valV_kS f k r]
      exact valV_neg fun z => e (Sum.inr.inj z)
theorem valV_kI {α : Type} (f : α → V) (k : Int) : ∀ l : List (Int × α), valV (kI f l) (Sum.inl k : Key) = (look l k).map f
  | [] => rfl
  | x :: r => by
    unfold look
    by_cases e : x.1 = k
    · rw [if_pos e]
      exact valV_pos (by show (_ : Key) = _; exact congrArg _ e)
    · rw [if_neg e, ← valV_kI f k r]
      exact valV_neg fun z => e (Sum.inl.inj z)
theorem look_mem {κ α : Type} [DecidableEq κ] {k : κ} {v : α} : ∀ {l : List (κ × α)}, look l k = some v → (k, v) ∈ l
  | [], h => by cases h
  | x :: r, h => by
    unfold look at h
    by_cases e : x.1 = k
    · rw [if_pos e] at h
      have h := Option.some.inj h
      rw [← e, ← h]
      exact List.mem_cons_self
    · rw [if_neg e] at h
      exact List.mem_cons_of_mem _ (look_mem h)
/-- a value put at a key: in its place, or behind -/
def putL {κ α : Type} [DecidableEq κ] : List (κ × α) → κ → α → List (κ × α)
  | [], k, v => [(k, v)]
  | x :: r, k, v => if x.1 = k then (k, v) :: (if (look r k).isSome then putL r k v else r) else x :: putL r k v
theorem putL_new {κ α : Type} [DecidableEq κ] {k : κ} {v : α} : ∀ {l : List (κ × α)}, look l k = none → putL l k v = l ++ [(k, v)]
  | [], _ => rfl
  | x :: r, h => by
    unfold look at h
    by_cases e : x.1 = k
    · rw [if_pos e] at h; cases h
    · rw [if_neg e] at h
      unfold putL
      rw [if_neg e, putL_new h]
      rfl
section
variable {σ : L2.St} {H : Hp} {D : Ends} {Q : VK} {ta td ty tv : TE}
def rDIn (b : Bool) (x y : V) (H : Hp) (Q : VK) : Prop := ∃ a o, x = .ref a ∧ DGet H a y o ∧ Q (.bl (if b = true then o.isSome else !o.isSome)) H
theorem x_din (h : ty σ H fun y H1 => td σ H1 fun x H2 => rDIn true x y H2 Q) : tDIn ty td σ H Q := h
theorem x_dnin (h : ty σ H fun y H1 => td σ H1 fun x H2 => rDIn false x y H2 Q) : tDNotIn ty td σ H Q := h
theorem r_dinS {α : Type} {f : α → V} {l : List (Str × α)} {a : Addr} {k : Str} (e : H a = some (.dK (kS f l))) (h : Q (.bl (look l k).isSome) H) : rDIn true (.ref a) (.str k) H Q :=
  ⟨a, _, rfl, dget_s e (valV_kS f k l), by rw [if_pos rfl, Option.isSome_map]; exact h⟩
theorem r_dinI {α : Type} {f : α → V} {l : List (Int × α)} {a : Addr} {k : Int} (e : H a = some (.dK (kI f l))) (h : Q (.bl (look l k).isSome) H) : rDIn true (.ref a) (.int k) H Q :=
  ⟨a, _, rfl, dget_i e (valV_kI f k l), by rw [if_pos rfl, Option.isSome_map]; exact h⟩
theorem r_dninS {α : Type} {f : α → V} {l : List (Str × α)} {a : Addr} {k : Str} (e : H a = some (.dK (kS f l))) (h : Q (.bl (!(look l k).isSome)) H) : rDIn false (.ref a) (.str k) H Q :=
  ⟨a, _, rfl, dget_s e (valV_kS f k l), by rw [if_neg Bool.false_ne_true, Option.isSome_map]; exact h⟩
theorem r_dninI {α : Type} {f : α → V} {l : List (Int × α)} {a : Addr} {k : Int} (e : H a = some (.dK (kI f l))) (h : Q (.bl (!(look l k).isSome)) H) : rDIn false (.ref a) (.int k) H Q :=
  ⟨a, _, rfl, dget_i e (valV_kI f k l), by rw [if_neg Bool.false_ne_true, Option.isSome_map]; exact h⟩
def rDGet (x y : V) (H : Hp) (Q : VK) : Prop := ∃ a v, x = V.ref a ∧ DGet H a y (some v) ∧ Q v H
theorem x_dgetR (h : td σ H fun x H1 => ty σ H1 fun y H2 => rDGet x y H2 Q) : tDGet td ty σ H Q := h
theorem r_getS {α : Type} {f : α → V} {l : List (Str × α)} {a : Addr} {k : Str} {v : α} (e : H a = some (.dK (kS f l))) (hv : look l k = some v) (h : Q (f v) H) : rDGet (.ref a) (.str k) H Q :=
  ⟨a, f v, rfl, dget_s e (by rw [valV_kS, hv]; rfl), h⟩
theorem r_getI {α : Type} {f : α → V} {l : List (Int × α)} {a : Addr} {k : Int} {v : α} (e : H a = some (.dK (kI f l))) (hv : look l k = some v) (h : Q (f v) H) : rDGet (.ref a) (.int k) H Q :=
  ⟨a, f v, rfl, dget_i e (by rw [valV_kI, hv]; rfl), h⟩
def rDPut (x y v : V) (H : Hp) (R : Hp → Prop) : Prop := ∃ a H4, x = V.ref a ∧ DPut H a y v H4 ∧ R H4
theorem x_dputR (h : tv σ H fun v H1 => td σ H1 fun x H2 => ty σ H2 fun y H3 => rDPut x y v H3 fun H4 => D.nx σ H4) : sDPut td ty tv D σ H := h
theorem kS_len {α : Type} (f : α → V) (l : List (Str × α)) : (kS f l).length = l.length := List.length_map ..
theorem kI_len {α : Type} (f : α → V) (l : List (Int × α)) : (kI f l).length = l.length := List.length_map ..
theorem r_putS {α : Type} {f : α → V} {l : List (Str × α)} {a : Addr} {k : Str} {v : α} {R : Hp → Prop} (e : H a = some (.dK (kS f l))) (hn : look l k = none) (hl : l.length < 100000) (h : R (upd H a (.dK (kS f (l ++ [(k, v)]))))) : rDPut (.ref a) (.str k) (f v) H R :=
  ⟨a, _, rfl, dput_s e (by rw [kS_len]; exact hl) rfl, by rw [putK_new _ (by rw [valV_kS, hn]; rfl)]; unfold kS at h ⊢; rw [List.map_append] at h; exact h⟩
theorem r_putI {α : Type} {f : α → V} {l : List (Int × α)} {a : Addr} {k : Int} {v : α} {R : Hp → Prop} (e : H a = some (.dK (kI f l))) (hn : look l k = none) (hl : l.length < 100000) (h : R (upd H a (.dK (kI f (l ++ [(k, v)]))))) : rDPut (.ref a) (.int k) (f v) H R :=
  ⟨a, _, rfl, dput_i e (by rw [kI_len]; exact hl) rfl, by rw [putK_new _ (by rw [valV_kI, hn]; rfl)]; unfold kI at h ⊢; rw [List.map_append] at h; exact h⟩
/-- a value put at a key that is there -/
def setL {κ α : Type} [DecidableEq κ] (l : List (κ × α)) (k : κ) (v : α) : List (κ × α) := l.map fun x => if x.1 = k then (k, v) else x
theorem r_setI {α : Type} {f : α → V} {l : List (Int × α)} {a : Addr} {k : Int} {v : α} {R : Hp → Prop} (e : H a = some (.dK (kI f l))) (hn : (look l k).isSome = true) (hl : l.length < 100000) (h : R (upd H a (.dK (kI f (setL l k v))))) : rDPut (.ref a) (.int k) (f v) H R := by
  refine ⟨a, _, rfl, dput_i e (by rw [kI_len]; exact hl) rfl, ?_⟩
  have h1 : ((kI f l).any fun kv => decide (kv.1 = (Sum.inl k : Key))) = true := by rw [valV_any, valV_kI, Option.isSome_map]; exact hn
  have e2 : putK (kI f l) (Sum.inl k : Key) (f v) = kI f (setL l k v) := by
    unfold putK
    rw [if_pos h1]
    unfold kI setL
    rw [List.map_map, List.map_map]
    refine List.map_congr_left fun x _ => ?_
    show (if (Sum.inl x.1 : Key) = Sum.inl k then _ else _) = (((Sum.inl (if x.1 = k then (k, v) else x).1 : Key)), f (if x.1 = k then (k, v) else x).2)
    by_cases e : x.1 = k
    · rw [if_pos e, if_pos (by rw [e])]
      show ((Sum.inl x.1 : Key), f v) = (Sum.inl k, f v)
      rw [e]
    · rw [if_neg e, if_neg fun z => e (Sum.inl.inj z)]
  rw [e2]
  exact h
/-- a value put at a key, in its place or behind -/
def putG {κ α : Type} [DecidableEq κ] (l : List (κ × α)) (k : κ) (v : α) : List (κ × α) := if (look l k).isSome = true then setL l k v else l ++ [(k, v)]
theorem r_putGI {α : Type} {f : α → V} {l : List (Int × α)} {a : Addr} {k : Int} (v : α) {R : Hp → Prop} (e : H a = some (.dK (kI f l))) (hl : l.length < 100000) (h : R (upd H a (.dK (kI f (putG l k v))))) : rDPut (.ref a) (.int k) (f v) H R := by
  unfold putG at h
  by_cases hn : (look l k).isSome = true
  · rw [if_pos hn] at h
    exact r_setI e hn hl h
  · rw [if_neg hn] at h
    exact r_putI e (by simpa using hn) hl h
theorem r_setS {α : Type} {f : α → V} {l : List (Str × α)} {a : Addr} {k : Str} {v : α} {R : Hp → Prop} (e : H a = some (.dK (kS f l))) (hn : (look l k).isSome = true) (hl : l.length < 100000) (h : R (upd H a (.dK (kS f (setL l k v))))) : rDPut (.ref a) (.str k) (f v) H R := by
  refine ⟨a, _, rfl, dput_s e (by rw [kS_len]; exact hl) rfl, ?_⟩
  have h1 : ((kS f l).any fun kv => decide (kv.1 = (Sum.inr k : Key))) = true := by rw [valV_any, valV_kS, Option.isSome_map]; exact hn
  have e2 : putK (kS f l) (Sum.inr k : Key) (f v) = kS f (setL l k v) := by
    unfold putK
    rw [if_pos h1]
    unfold kS setL
    rw [List.map_map, List.map_map]
    refine List.map_congr_left fun x _ => ?_
    show (if (Sum.inr x.1 : Key) = Sum.inr k then _ else _) = (((Sum.inr (if x.1 = k then (k, v) else x).1 : Key)), f (if x.1 = k then (k, v) else x).2)
    by_cases e : x.1 = k
    · rw [if_pos e, if_pos (by rw [e])]
      show ((Sum.inr x.1 : Key), f v) = (Sum.inr k, f v)
      rw [e]
    · rw [if_neg e, if_neg fun z => e (Sum.inr.inj z)]
  rw [e2]
  exact h
theorem r_putGS {α : Type} {f : α → V} {l : List (Str × α)} {a : Addr} {k : Str} (v : α) {R : Hp → Prop} (e : H a = some (.dK (kS f l))) (hl : l.length < 100000) (h : R (upd H a (.dK (kS f (putG l k v))))) : rDPut (.ref a) (.str k) (f v) H R := by
  unfold putG at h
  by_cases hn : (look l k).isSome = true
  · rw [if_pos hn] at h
    exact r_setS e hn hl h
  · rw [if_neg hn] at h
    exact r_putS e (by simpa using hn) hl h
def rFld (K : PySem.W.Frag) (f : Str) (x : V) (H : Hp) (Q : VK) : Prop := ∃ a C dx fs v, x = V.ref a ∧ H a = some (.ins C dx fs) ∧ Cls K C ∧ NoAttr K C f ∧ fs.lookup f = some v ∧ Q v H
theorem x_fldS {K : PySem.W.Frag} {f : Str} (h : ta σ H fun x H1 => rFld K f x H1 Q) : tFld K ta f σ H Q := h
end
theorem pe_neg1 {X : Cx} {c : Int} {k : Nat} {p1 p2 : Pos} : PE X (.UnaryOp .USub (.Constant (.int c) k p1) p2) (tC (.int (-c))) := MPX.pe_imp (pe_un un_neg pe_int) fun σ H Q h => ⟨c, rfl, h⟩
/-! ### the reading's tables -/
structure RdM where
  modes : List (Str × Addr × List (Str × Int))
  begins : List (Str × Str)
  routines : List (Str × Int)
  kinds : List (Int × Str)
  owners : List (Int × Str)
  partners : List (Int × Int)
  ors : List (Int × Addr × List Int)
  calls : List (Int × Str)
  leaves : List (Int × Int)
  works : List (Int × Addr × List (Str × Str))
  ends : List (Str × Int)
  owner : Option Str
  blocks : List Int
def RdM.empty : RdM := ⟨[], [], [], [], [], [], [], [], [], [], [], none, []⟩
def ownV : Option Str → V
  | none => .non
  | some x => .str x
def tabs (R : RdM) : List HO := [.dK (kS (fun x => .ref x.1) R.modes), .dK (kS V.str R.begins), .dK (kS V.int R.routines), .dK (kI V.str R.kinds), .dK (kI V.str R.owners), .dK (kI V.int R.partners), .dK (kI (fun x => .ref x.1) R.ors), .dK (kI V.str R.calls), .dK (kI V.int R.leaves), .dK (kI (fun x => .ref x.1) R.works), .dK (kS V.int R.ends), .lst (R.blocks.map V.int)]
def rflds (ad : Nat → Addr) (o : Option Str) : List (Str × V) := [("modes", .ref (ad 0)), ("begins", .ref (ad 1)), ("routines", .ref (ad 2)), ("kinds", .ref (ad 3)), ("owners", .ref (ad 4)), ("partners", .ref (ad 5)), ("ors", .ref (ad 6)), ("calls", .ref (ad 7)), ("leaves", .ref (ad 8)), ("works", .ref (ad 9)), ("ends", .ref (ad 10)), ("owner", ownV o), ("blocks", .ref (ad 11))]
def rall : List Str := ["modes", "begins", "routines", "kinds", "owners", "partners", "ors", "calls", "leaves", "works", "ends", "owner", "blocks"]
structure NestOk (H : Hp) (ad : Nat → Addr) (R : RdM) : Prop where
  mo : ∀ x ∈ R.modes, H x.2.1 = some (.dK (kS V.int x.2.2)) ∧ ∀ i < 12, x.2.1 ≠ ad i
  os : ∀ x ∈ R.ors, H x.2.1 = some (.tup (x.2.2.map V.int)) ∧ ∀ i < 12, x.2.1 ≠ ad i
  wo : ∀ x ∈ R.works, H x.2.1 = some (.dK (kS V.str x.2.2)) ∧ ∀ i < 12, x.2.1 ≠ ad i
structure RdAt (C : Addr) (H : Hp) (p : Addr) (ad : Nat → Addr) (R : RdM) : Prop where
  ob : ∃ dx, H p = some (.ins C dx (rflds ad R.owner))
  tab : ∀ i, i < 12 → H (ad i) = (tabs R)[i]?
  inj : ∀ i j, i < 12 → j < 12 → ad i = ad j → i = j
  np : ∀ i, i < 12 → p ≠ ad i
  ne : NestOk H ad R
theorem NestOk.mono {H H' : Hp} {ad : Nat → Addr} {R : RdM} (n : NestOk H ad R) (k : ∀ b o, H b = some o → (∀ i < 12, b ≠ ad i) → H' b = some o) : NestOk H' ad R :=
  ⟨fun x hx => ⟨k _ _ (n.mo x hx).1 (n.mo x hx).2, (n.mo x hx).2⟩, fun x hx => ⟨k _ _ (n.os x hx).1 (n.os x hx).2, (n.os x hx).2⟩, fun x hx => ⟨k _ _ (n.wo x hx).1 (n.wo x hx).2, (n.wo x hx).2⟩⟩
theorem RdAt.same {C : Addr} {H H' : Hp} {p : Addr} {ad : Nat → Addr} {R : RdM} (r : RdAt C H p ad R) (s : Same H H') : RdAt C H' p ad R := by
  obtain ⟨⟨dx, ho⟩, ht, hi, hp, hn⟩ := r
  refine ⟨⟨dx, s _ _ ho⟩, fun i h => ?_, hi, hp, hn.mono fun b o e _ => s _ _ e⟩
  have e := ht i h
  cases q : (tabs R)[i]? with
  | none => exact absurd (List.getElem?_eq_none_iff.mp q) (by show ¬ 12 ≤ i; omega)
  | some o => rw [q] at e; exact s _ _ e
theorem RdAt.put {C : Addr} {H : Hp} {p : Addr} {ad : Nat → Addr} {R R' : RdM} {o : HO} (r : RdAt C H p ad R) (i : Nat) (hi : i < 12) (ht : tabs R' = (tabs R).set i o) (hw : R'.owner = R.owner) (hn : NestOk H ad R') : RdAt C (upd H (ad i) o) p ad R' := by
  obtain ⟨⟨dx, ho⟩, htb, hin, hp, _⟩ := r
  refine ⟨⟨dx, by rw [upd_ne (hp i hi), hw]; exact ho⟩, fun j hj => ?_, hin, hp, hn.mono fun b o e n => by rw [upd_ne (n i hi)]; exact e⟩
  rw [ht]
  by_cases e : i = j
  · subst e
    rw [upd_same, List.getElem?_set_self (by show i < 12; exact hi)]
  · rw [upd_ne fun z => e (hin j i hj hi z).symm, List.getElem?_set_ne e]
    exact htb j hj
section
variable {C : Addr} {H : Hp} {p : Addr} {ad : Nat → Addr} {R : RdM}
theorem RdAt.t0 (r : RdAt C H p ad R) : H (ad 0) = some (.dK (kS (fun x => .ref x.1) R.modes)) := r.tab 0 (by decide)
theorem RdAt.t1 (r : RdAt C H p ad R) : H (ad 1) = some (.dK (kS V.str R.begins)) := r.tab 1 (by decide)
theorem RdAt.t2 (r : RdAt C H p ad R) : H (ad 2) = some (.dK (kS V.int R.routines)) := r.tab 2 (by decide)
theorem RdAt.t3 (r : RdAt C H p ad R) : H (ad 3) = some (.dK (kI V.str R.kinds)) := r.tab 3 (by decide)
theorem RdAt.t4 (r : RdAt C H p ad R) : H (ad 4) = some (.dK (kI V.str R.owners)) := r.tab 4 (by decide)
theorem RdAt.t5 (r : RdAt C H p ad R) : H (ad 5) = some (.dK (kI V.int R.partners)) := r.tab 5 (by decide)
theorem RdAt.t6 (r : RdAt C H p ad R) : H (ad 6) = some (.dK (kI (fun x => .ref x.1) R.ors)) := r.tab 6 (by decide)
theorem RdAt.t7 (r : RdAt C H p ad R) : H (ad 7) = some (.dK (kI V.str R.calls)) := r.tab 7 (by decide)
theorem RdAt.t8 (r : RdAt C H p ad R) : H (ad 8) = some (.dK (kI V.int R.leaves)) := r.tab 8 (by decide)
theorem RdAt.t9 (r : RdAt C H p ad R) : H (ad 9) = some (.dK (kI (fun x => .ref x.1) R.works)) := r.tab 9 (by decide)
theorem RdAt.t10 (r : RdAt C H p ad R) : H (ad 10) = some (.dK (kS V.int R.ends)) := r.tab 10 (by decide)
theorem RdAt.t11 (r : RdAt C H p ad R) : H (ad 11) = some (.lst (R.blocks.map V.int)) := r.tab 11 (by decide)
theorem RdAt.own (r : RdAt C H p ad R) (o : Option Str) (dx : Addr) : RdAt C (upd H p (.ins C dx (rflds ad o))) p ad { R with owner := o } := by
  obtain ⟨⟨dx0, ho⟩, htb, hin, hp, hn⟩ := r
  refine ⟨⟨dx, upd_same⟩, fun j hj => by rw [upd_ne (Ne.symm (hp j hj))]; exact htb j hj, hin, hp, ⟨fun x hx => ⟨?_, (hn.mo x hx).2⟩, fun x hx => ⟨?_, (hn.os x hx).2⟩, fun x hx => ⟨?_, (hn.wo x hx).2⟩⟩⟩
  · have e := (hn.mo x hx).1
    rw [upd_ne (ne_of e ho fun z => by cases z)]
    exact e
  · have e := (hn.os x hx).1
    rw [upd_ne (ne_of e ho fun z => by cases z)]
    exact e
  · have e := (hn.wo x hx).1
    rw [upd_ne (ne_of e ho fun z => by cases z)]
    exact e
end
theorem kS_nil {α : Type} (f : α → V) (l : List (Str × α)) : (kS f l).isEmpty = l.isEmpty := List.isEmpty_map ..
/-- nothing but the reading's own changes -/
def Fro (p : Addr) (ad : Nat → Addr) (H H' : Hp) : Prop := ∀ b o, H b = some o → b ≠ p → (∀ i < 12, b ≠ ad i) → H' b = some o
theorem Fro.refl {p : Addr} {ad : Nat → Addr} {H : Hp} : Fro p ad H H := fun _ _ e _ _ => e
theorem Fro.trans {p : Addr} {ad : Nat → Addr} {H H1 H2 : Hp} (a : Fro p ad H H1) (b : Fro p ad H1 H2) : Fro p ad H H2 := fun c o e n m => b c o (a c o e n m) n m
theorem Fro.of {p : Addr} {ad : Nat → Addr} {H H1 : Hp} (s : Same H H1) : Fro p ad H H1 := fun c o e _ _ => s c o e
theorem Fro.put {p : Addr} {ad : Nat → Addr} {H : Hp} {i : Nat} {o : HO} (hi : i < 12) : Fro p ad H (upd H (ad i) o) := fun c u e _ m => by rw [upd_ne (m i hi)]; exact e
theorem Fro.own {p : Addr} {ad : Nat → Addr} {H : Hp} {o : HO} : Fro p ad H (upd H p o) := fun c u e n _ => by rw [upd_ne n]; exact e
structure RdTxt (K : PySem.W.Frag) (C : Addr) : Prop where
  cl : Cls K C
  na : ∀ f ∈ rall, NoAttr K C f
theorem r_rd {K : PySem.W.Frag} {C : Addr} {H : Hp} {p : Addr} {ad : Nat → Addr} {R : RdM} {f : Str} {v : V} {Q : VK} (r : RdAt C H p ad R) (T : RdTxt K C) (hm : f ∈ rall) (hl : (rflds ad R.owner).lookup f = some v) (h : Q v H) : rFld K f (.ref p) H Q := by
  obtain ⟨dx, e⟩ := r.ob
  exact ⟨p, C, dx, _, v, rfl, e, T.cl, T.na f hm, hl, h⟩
/-- tables of few entries -/
structure Sm (R : RdM) : Prop where
  s0 : R.modes.length < 1000
  s1 : R.begins.length < 1000
  s2 : R.routines.length < 1000
  s3 : R.kinds.length < 1000
  s4 : R.owners.length < 1000
  s5 : R.partners.length < 1000
  s6 : R.ors.length < 1000
  s7 : R.calls.length < 1000
  s8 : R.leaves.length < 1000
  s9 : R.works.length < 1000
  s10 : R.ends.length < 1000
  s11 : R.blocks.length < 1000
/-- the modes' own tables, and the alternatives, are few -/
structure Sm2 (R : RdM) : Prop where
  m : ∀ x ∈ R.modes, x.2.2.length < 1000
  o : ∀ x ∈ R.ors, x.2.2.length < 1000
theorem lt5 {n : Nat} (h : n < 1000) : n < 100000 := by omega
theorem lt6 {n : Nat} (h : n ≤ 1000) : n < 100000 := by omega
theorem putG_len {κ α : Type} [DecidableEq κ] (l : List (κ × α)) (k : κ) (v : α) : (putG l k v).length ≤ l.length + 1 := by
  unfold putG
  split
  · unfold setL
    rw [List.length_map]
    omega
  · rw [List.length_append]
    exact Nat.le_refl _
theorem mem_putG {κ α : Type} [DecidableEq κ] {l : List (κ × α)} {k : κ} {v : α} {x : κ × α} (h : x ∈ putG l k v) : x = (k, v) ∨ x ∈ l := by
  unfold putG at h
  split at h
  · obtain ⟨y, hy, e⟩ := List.mem_map.mp h
    by_cases z : y.1 = k
    · rw [if_pos z] at e
      exact .inl e.symm
    · rw [if_neg z] at e
      exact .inr (e ▸ hy)
  · rcases List.mem_append.mp h with h | h
    · exact .inr h
    · exact .inl (List.mem_singleton.mp h)
theorem RdAt.fresh {C : Addr} {H : Hp} {p : Addr} {ad : Nat → Addr} {R : RdM} (r : RdAt C H p ad R) {q : Addr} (n : H q = none) : ∀ i < 12, q ≠ ad i := fun i hi e => by
  have h := r.tab i hi
  rw [← e, n] at h
  exact absurd (List.getElem?_eq_none_iff.mp h.symm) (by show ¬ 12 ≤ i; omega)
theorem in12 {i : Nat} (h : i < 12) : i = 0 ∨ i = 1 ∨ i = 2 ∨ i = 3 ∨ i = 4 ∨ i = 5 ∨ i = 6 ∨ i = 7 ∨ i = 8 ∨ i = 9 ∨ i = 10 ∨ i = 11 := by omega
theorem RdAt.not_tup {C : Addr} {H : Hp} {p : Addr} {ad : Nat → Addr} {R : RdM} (r : RdAt C H p ad R) {q : Addr} {xs : List V} (h : H q = some (.tup xs)) : ∀ i < 12, q ≠ ad i := by
  intro i hi e
  subst e
  rcases in12 hi with rfl | rfl | rfl | rfl | rfl | rfl | rfl | rfl | rfl | rfl | rfl | rfl
  · rw [r.t0] at h; cases h
  · rw [r.t1] at h; cases h
  · rw [r.t2] at h; cases h
  · rw [r.t3] at h; cases h
  · rw [r.t4] at h; cases h
  · rw [r.t5] at h; cases h
  · rw [r.t6] at h; cases h
  · rw [r.t7] at h; cases h
  · rw [r.t8] at h; cases h
  · rw [r.t9] at h; cases h
  · rw [r.t10] at h; cases h
  · rw [r.t11] at h; cases h
theorem x_catA {K : PySem.W.Frag} {a b : Addr} {xs ys : List V} {H : Hp} {Q : VK} (h1 : SqT K H a xs) (h2 : H b = some (.tup ys)) (hne : ys ≠ []) (hl : xs.length + ys.length ≤ sizeLine) (h : ∀ q H', Same H H' → H' q = some (.tup (xs ++ ys)) → Q (.ref q) H') : rCatA K (.ref a) (.ref b) H Q :=
  ⟨a, b, xs, ys, rfl, rfl, h1, SqT.of h2, hl, fun e => h b H (Same.refl H) (by rw [e]; exact h2), fun _ e => absurd e hne, fun _ _ q n => h q _ (same_upd n) upd_same⟩
theorem find_at {α : Type} {f : α → Bool} {b : α} : ∀ {l : List α} {i : Nat}, (∀ j < i, ∀ x, l[j]? = some x → f x = false) → l[i]? = some b → f b = true → l.find? f = some b
  | [], i, _, h, _ => by simp at h
  | a :: r, 0, _, h, hb => by
    have e : a = b := by simpa using h
    rw [List.find?_cons, e, hb]
  | a :: r, i + 1, ha, h, hb => by
    have e := ha 0 (Nat.succ_pos i) a rfl
    rw [List.find?_cons, e]
    exact find_at (i := i) (fun j hj x hx => ha (j + 1) (by omega) x hx) (by simpa using h) hb
theorem any_none {α : Type} {f : α → Bool} {l : List α} (h : ∀ j < l.length, ∀ x, l[j]? = some x → f x = false) : l.any f = false := by
  rw [List.any_eq_false]
  intro x hx
  obtain ⟨j, hj, e⟩ := List.getElem_of_mem hx
  rw [h j hj x (by rw [← e]; simp)]
  decide
theorem x_irev {K : PySem.W.Frag} {te : TE} {σ : L2.St} {H : Hp} {R : It → Hp → Prop} (h : tCons te tNil σ H fun vs H1 => ∃ (a : Addr) (xs : List V), vs = [V.ref a] ∧ SqL K H1 a xs ∧ R (Itv K a xs.length) H1) : iRev K (tCons te tNil) σ H R := h
theorem cutV_from (xs : List V) (k : Nat) : cutV xs (some (k : Int)) none = xs.drop k := by
  unfold cutV
  rw [HT.sIx_nat, HT.sIx_none]
  by_cases h : k ≤ xs.length
  · rw [Nat.min_eq_left h]
    exact List.take_of_length_le (by rw [List.length_drop]; omega)
  · rw [Nat.min_eq_right (by omega), List.drop_of_length_le (Nat.le_refl _), List.drop_of_length_le (show xs.length ≤ k by omega)]
    simp
theorem drop_at {α : Type} {l : List α} {i : Nat} {x : α} (h : l[i]? = some x) : l.drop i = x :: l.drop (i + 1) := by
  obtain ⟨hi, e⟩ := List.getElem?_eq_some_iff.mp h
  rw [List.drop_eq_getElem_cons hi, e]
/-- every second item, from the first on -/
def ev {α : Type} : List α → List α
  | a :: _ :: r => a :: ev r
  | r => r
theorem ev_at {α : Type} : ∀ (r : List α) (i : Nat), (ev r)[i]? = r[2 * i]?
  | [], i => by simp [ev]
  | [a], 0 => rfl
  | [a], i + 1 => by
    show ([a] : List α)[i + 1]? = ([a] : List α)[2 * (i + 1)]?
    rw [List.getElem?_eq_none (by simp), List.getElem?_eq_none (by simp; omega)]
  | a :: b :: r, 0 => rfl
  | a :: b :: r, i + 1 => by
    show (ev r)[i]? = (a :: b :: r)[2 * (i + 1)]?
    rw [ev_at r i, show 2 * (i + 1) = (2 * i + 1) + 1 by omega, List.getElem?_cons_succ, List.getElem?_cons_succ]
theorem pick_of {α : Type} {xs : List α} {n : Nat} {lo hi st : Option Int} {ks : List Nat} (hl : xs.length = n) (hk : sliceRange (sliceBounds lo hi st n).1 (sliceBounds lo hi st n).2.1 (sliceBounds lo hi st n).2.2 = ks) : pickV xs lo hi st = ks.filterMap (xs[·]?) := by
  unfold pickV
  rw [hl, hk]
theorem pick_ev {α : Type} (w0 n : α) : ∀ r : List α, r.length ≤ 12 → r.length % 2 = 0 → pickV (w0 :: n :: r) (some 2) none (some 2) = ev r ∧ pickV (w0 :: n :: r) (some 3) none (some 2) = ev r.tail ∧ (ev r).length = r.length / 2 ∧ (ev r.tail).length = r.length / 2
  | [], _, _ => ⟨(pick_of (n := 2) (ks := []) rfl (by decide)).trans rfl, (pick_of (n := 2) (ks := []) rfl (by decide)).trans rfl, by simp [ev], by simp [ev]⟩
  | [_], _, h => by simp only [List.length_cons, List.length_nil] at h; omega
  | [_, _], _, _ => ⟨(pick_of (n := 4) (ks := [2]) rfl (by decide)).trans rfl, (pick_of (n := 4) (ks := [3]) rfl (by decide)).trans rfl, by simp [ev], by simp [ev]⟩
  | [_, _, _], _, h => by simp only [List.length_cons, List.length_nil] at h; omega
  | [_, _, _, _], _, _ => ⟨(pick_of (n := 6) (ks := [2, 4]) rfl (by decide)).trans rfl, (pick_of (n := 6) (ks := [3, 5]) rfl (by decide)).trans rfl, by simp [ev], by simp [ev]⟩
  | [_, _, _, _, _], _, h => by simp only [List.length_cons, List.length_nil] at h; omega
  | [_, _, _, _, _, _], _, _ => ⟨(pick_of (n := 8) (ks := [2, 4, 6]) rfl (by decide)).trans rfl, (pick_of (n := 8) (ks := [3, 5, 7]) rfl (by decide)).trans rfl, by simp [ev], by simp [ev]⟩
  | [_, _, _, _, _, _, _], _, h => by simp only [List.length_cons, List.length_nil] at h; omega
  | [_, _, _, _, _, _, _, _], _, _ => ⟨(pick_of (n := 10) (ks := [2, 4, 6, 8]) rfl (by decide)).trans rfl, (pick_of (n := 10) (ks := [3, 5, 7, 9]) rfl (by decide)).trans rfl, by simp [ev], by simp [ev]⟩
  | [_, _, _, _, _, _, _, _, _], _, h => by simp only [List.length_cons, List.length_nil] at h; omega
  | [_, _, _, _, _, _, _, _, _, _], _, _ => ⟨(pick_of (n := 12) (ks := [2, 4, 6, 8, 10]) rfl (by decide)).trans rfl, (pick_of (n := 12) (ks := [3, 5, 7, 9, 11]) rfl (by decide)).trans rfl, by simp [ev], by simp [ev]⟩
  | [_, _, _, _, _, _, _, _, _, _, _], _, h => by simp only [List.length_cons, List.length_nil] at h; omega
  | [_, _, _, _, _, _, _, _, _, _, _, _], _, _ => ⟨(pick_of (n := 14) (ks := [2, 4, 6, 8, 10, 12]) rfl (by decide)).trans rfl, (pick_of (n := 14) (ks := [3, 5, 7, 9, 11, 13]) rfl (by decide)).trans rfl, by simp [ev], by simp [ev]⟩
  | _ :: _ :: _ :: _ :: _ :: _ :: _ :: _ :: _ :: _ :: _ :: _ :: _ :: _, h, _ => by simp only [List.length_cons] at h; omega
theorem map_ev {α β : Type} (f : α → β) : ∀ r : List α, (ev r).map f = ev (r.map f)
  | [] => rfl
  | [_] => rfl
  | a :: b :: r => by
    show f a :: (ev r).map f = f a :: ev (r.map f)
    rw [map_ev f r]
theorem x_gtup2 {K : PySem.W.Frag} {T : Addr} {x y : V} {i j : Nat} {σ : L2.St} {H : Hp} {Q : L2.St → Hp → Prop} (h : H T = some (.tup [x, y])) (q : Q ((σ.set i (some x)).set j (some y)) H) : gTup K 2 (gCons (gName i) (gCons (gName j) gNil)) (.ref T) σ H Q :=
  ⟨T, [x, y], rfl, SqT.of h, rfl, x, [y], rfl, y, [], rfl, rfl, q⟩
def rSl3 (K : PySem.W.Frag) (x : V) (l u o : Option Int) (H4 : Hp) (Q : VK) : Prop := ∃ a xs, x = V.ref a ∧ SqL K H4 a xs ∧ o ≠ some 0 ∧ (pickV xs l u o).length ≤ sizeLine ∧ ∀ p, H4 p = none → Q (.ref p) (upd H4 p (.lst (pickV xs l u o)))
theorem x_sl3 {K : PySem.W.Frag} {te : TE} {tl th ts : TO} {σ : L2.St} {H : Hp} {Q : VK} (h : te σ H fun x H1 => tl σ H1 fun l H2 => th σ H2 fun u H3 => ts σ H3 fun o H4 => rSl3 K x l u o H4 Q) : tSl3 K te tl th ts σ H Q := h
theorem r_sl3 {K : PySem.W.Frag} {a : Addr} {xs : List V} {l u o : Option Int} {H : Hp} {Q : VK} (hs : SqL K H a xs) (ho : o ≠ some 0) {ys : List V} (hy : pickV xs l u o = ys) (hz : ys.length ≤ sizeLine) (h : ∀ H' p, Same H H' → H p = none → H' p = some (.lst ys) → Q (.ref p) H') : rSl3 K (.ref a) l u o H Q :=
  ⟨a, xs, rfl, hs, ho, by rw [hy]; exact hz, fun p n => by rw [hy]; exact h _ p (same_upd n) n upd_same⟩
theorem x_izip {K : PySem.W.Frag} {te te2 : TE} {σ : L2.St} {H : Hp} {R : It → Hp → Prop} (h : tCons te (tCons te2 tNil) σ H fun vs H1 => ∃ (a b : Addr) (xs ys : List V), vs = [V.ref a, V.ref b] ∧ SqL K H1 a xs ∧ SqL K H1 b ys ∧ R (Itz K a b) H1) : iZip K (tCons te (tCons te2 tNil)) σ H R := h
theorem at_last {α : Type} {xs : List α} {v : α} (h : xs.getLast? = some v) : atI xs (-1) = some v := by
  obtain ⟨ys, rfl⟩ := List.getLast?_eq_some_iff.mp h
  exact atI_last ys v
/-- what a def of the reading answers -/
def RdPost (C p : Addr) (ad : Nat → Addr) (H : Hp) (b : Bool) (f : Addr → RdM) (Q : VK) : Prop := (b = false → ∀ H', Fro p ad H H' → Q (.bl false) H') ∧ (b = true → ∀ q H', Fro p ad H H' → RdAt C H' p ad (f q) → Q (.bl true) H')
/-! the mirrors -/
def okStart (R : RdM) : List Str → Bool
  | [_, m, v] => R.routines.isEmpty && (look R.modes m).isSome && !(look R.begins m).isSome && (match look R.modes m with | some x => (look x.2 v).isSome | none => false)
  | _ => false
def stStart (R : RdM) : List Str → RdM
  | [_, m, v] => { R with begins := putG R.begins m v }
  | _ => R
def okProc (nm : Str → Bool) (R : RdM) : List Str → Bool
  | [_, n] => R.owner.isNone && nm n && !(look R.routines n).isSome && !decide (R.routines.length = 6)
  | _ => false
def stProc (R : RdM) (line : Int) : List Str → RdM
  | [_, n] => { R with routines := putG R.routines n line, owner := some n }
  | _ => R
theorem own_non {o : Option Str} : ownV o = .non ↔ o = none := by cases o <;> simp [ownV]
def stEnd (R : RdM) (line : Int) : RdM := match R.blocks.getLast? with
  | none => match R.owner with
    | some o => { R with ends := putG R.ends o line, owner := none }
    | none => R
  | some first => { R with blocks := R.blocks.dropLast, partners := putG (putG R.partners first line) line first }
def okOr (R : RdM) : Bool := match R.blocks.getLast? with
  | none => false
  | some first => match look R.kinds first with
    | some k => decide (k = ("either" : Str))
    | none => false
def stOr (R : RdM) (line : Int) (q : Addr) : RdM := match R.blocks.getLast? with
  | none => R
  | some first => match look R.ors first with
    | some x => { R with partners := putG R.partners line first, ors := putG R.ors first (q, x.2 ++ [line]) }
    | none => R
def isEver (R : RdM) (b : Int) : Bool := decide (look R.kinds b = some ("ever" : Str))
def okLeave (R : RdM) : Bool := R.blocks.reverse.any (isEver R)
def stLeave (R : RdM) (line : Int) : RdM := match R.blocks.reverse.find? (isEver R) with
  | some first => { R with leaves := putG R.leaves line first }
  | none => R
def okBlock (R : RdM) : Bool := !decide (R.blocks.length = 8)
def stBlock (R : RdM) (kind : Str) (line : Int) (q : Addr) : RdM := if kind = ("either" : Str) then { R with blocks := R.blocks ++ [line], ors := putG R.ors line (q, []) } else { R with blocks := R.blocks ++ [line] }
/-- the open blocks are told in the tables -/
def BlkT (R : RdM) : Prop := ∀ b ∈ R.blocks, ∃ k, look R.kinds b = some k ∧ (k = ("either" : Str) → (look R.ors b).isSome = true)
/-! the mirrors of do lines and mode lines; it: an item of a word; nm: is it a name; pr: is it a price, and which -/
def doItems (it : Str → Option (Str × Str)) (R : RdM) : List Str → List (Str × Str) → Option (List (Str × Str))
  | [], acc => some acc
  | x :: r, acc => match it x with
    | none => none
    | some (m, v) => match look R.modes m with
      | none => none
      | some d => if (look acc m).isSome = true then none else if (!decide (v = ("?" : Str)) && !(look d.2 v).isSome) = true then none else doItems it R r (putG acc m v)
def okDo (nm : Str → Bool) (it : Str → Option (Str × Str)) (R : RdM) : List Str → Bool
  | _ :: n :: r => decide (r.length ≤ 6) && nm n && (doItems it R r []).isSome
  | _ => false
def stDo (it : Str → Option (Str × Str)) (R : RdM) (line : Int) (q : Addr) : List Str → RdM
  | _ :: _ :: r => match doItems it R r [] with
    | some its => { R with works := putG R.works line (q, its) }
    | none => R
  | _ => R
def modeItems (nm pr : Str → Bool) (val : Str → Int) : List Str → List (Str × Int) → Option (List (Str × Int))
  | v :: p :: r, acc => if nm v && !(look acc v).isSome && pr p then modeItems nm pr val r (putG acc v (val p)) else none
  | _, acc => some acc
def okMode (nm pr : Str → Bool) (val : Str → Int) (R : RdM) : List Str → Bool
  | _ :: n :: r => decide (2 ≤ r.length) && decide (r.length % 2 = 0) && decide (r.length ≤ 12) && R.routines.isEmpty && nm n && !(look R.modes n).isSome && !decide (R.modes.length = 6) && (modeItems nm pr val r []).isSome
  | _ => false
def stMode (nm pr : Str → Bool) (val : Str → Int) (R : RdM) (q : Addr) : List Str → RdM
  | _ :: n :: r => match modeItems nm pr val r [] with
    | some vs => { R with modes := putG R.modes n (q, vs) }
    | none => R
  | _ => R
def okCall (nm : Str → Bool) : List Str → Bool
  | [n] => nm n && !decide (n = ("main" : Str))
  | _ => false
def stCall (R : RdM) (line : Int) : List Str → RdM
  | [n] => { R with calls := putG R.calls line n }
  | _ => R
def okIns (nm : Str → Bool) (it : Str → Option (Str × Str)) (R : RdM) : List Str → Bool
  | [] => false
  | k :: r => if k = ("do" : Str) then okDo nm it R (k :: r) else if k = ("call" : Str) then okCall nm r else if ¬ r = [] then false else
    if k = ("end" : Str) then true else if k = ("or" : Str) then okOr R else if k = ("leave" : Str) then okLeave R else if k ∈ (["either", "loop", "ever"] : List Str) then okBlock R else decide (k ∈ (["back", "stop"] : List Str))
def stIns (it : Str → Option (Str × Str)) (R : RdM) (line : Int) (q : Addr) : List Str → RdM
  | [] => R
  | k :: r => if k = ("do" : Str) then stDo it R line q (k :: r) else if k = ("call" : Str) then stCall R line r else
    if k = ("end" : Str) then stEnd R line else if k = ("or" : Str) then stOr R line q else if k = ("leave" : Str) then stLeave R line else if k ∈ (["either", "loop", "ever"] : List Str) then stBlock R k line q else R
/-- the reading when a line begins: its kind is noted -/
def noteK (R : RdM) (line : Int) (k : Str) : RdM := { R with kinds := putG R.kinds line k }
def okLine (nm pr : Str → Bool) (val : Str → Int) (it : Str → Option (Str × Str)) (R : RdM) (line : Int) : List Str → Bool
  | [] => false
  | k :: r => if k = ("mode" : Str) then okMode nm pr val (noteK R line k) (k :: r) else if k = ("start" : Str) then okStart (noteK R line k) (k :: r) else if k = ("proc" : Str) then okProc nm (noteK R line k) (k :: r) else
    match R.owner with
    | none => false
    | some o => okIns nm it { noteK R line k with owners := putG R.owners line o } (k :: r)
def stLine (nm pr : Str → Bool) (val : Str → Int) (it : Str → Option (Str × Str)) (R : RdM) (line : Int) (q : Addr) : List Str → RdM
  | [] => R
  | k :: r => if k = ("mode" : Str) then stMode nm pr val (noteK R line k) q (k :: r) else if k = ("start" : Str) then stStart (noteK R line k) (k :: r) else if k = ("proc" : Str) then stProc (noteK R line k) line (k :: r) else
    match R.owner with
    | none => R
    | some o => stIns it { noteK R line k with owners := putG R.owners line o } line q (k :: r)
theorem RdPost.of {C p : Addr} {ad : Nat → Addr} {H H1 : Hp} {b b' : Bool} {f f' : Addr → RdM} {Q : VK} (h : RdPost C p ad H b f Q) (fr : Fro p ad H H1) (e1 : b = b') (e2 : ∀ q, f q = f' q) : RdPost C p ad H1 b' f' Q :=
  ⟨fun z H' g => h.1 (e1.trans z) H' (fr.trans g), fun z q H' g rr => h.2 (e1.trans z) q H' (fr.trans g) (by rw [e2]; exact rr)⟩
theorem look_append {κ α : Type} [DecidableEq κ] {k : κ} {v : α} : ∀ (l : List (κ × α)) (j : κ), look l k = none → look (l ++ [(k, v)]) j = if k = j then some v else look l j
  | [], j, _ => rfl
  | x :: r, j, h => by
    unfold look at h
    by_cases e : x.1 = k
    · rw [if_pos e] at h; cases h
    · rw [if_neg e] at h
      show (if x.1 = j then some x.2 else look (r ++ [(k, v)]) j) = _
      rw [look_append r j h]
      show _ = if k = j then some v else if x.1 = j then some x.2 else look r j
      by_cases e1 : x.1 = j
      · rw [if_pos e1, if_pos e1, if_neg fun z => e (e1.trans z.symm)]
      · rw [if_neg e1, if_neg e1]
theorem look_setL {κ α : Type} [DecidableEq κ] {k : κ} {v : α} : ∀ (l : List (κ × α)) (j : κ), (look l k).isSome = true → look (setL l k v) j = if k = j then some v else look l j
  | [], j, h => by cases h
  | x :: r, j, h => by
    unfold look at h
    show look ((if x.1 = k then (k, v) else x) :: setL r k v) j = if k = j then some v else if x.1 = j then some x.2 else look r j
    by_cases e : x.1 = k
    · rw [if_pos e]
      show (if k = j then some v else look (setL r k v) j) = _
      by_cases e1 : k = j
      · rw [if_pos e1, if_pos e1]
      · rw [if_neg e1, if_neg e1, if_neg fun z => e1 (e.symm.trans z)]
        by_cases e2 : (look r k).isSome = true
        · rw [look_setL r j e2, if_neg e1]
        · have e3 : look r k = none := by simpa using e2
          have e4 : setL r k v = r := by
            unfold setL
            rw [show r = r.map id from (List.map_id r).symm]
            rw [List.map_map]
            refine List.map_congr_left fun y hy => ?_
            show (if y.1 = k then (k, v) else y) = y
            refine if_neg fun z => ?_
            have : ∀ {l : List (κ × α)}, y ∈ l → look l k = none → False := by
              intro l
              induction l with
              | nil => intro h; cases h
              | cons a t ih =>
                intro h1 h2
                unfold look at h2
                by_cases ea : a.1 = k
                · rw [if_pos ea] at h2; cases h2
                · rw [if_neg ea] at h2
                  rcases List.mem_cons.mp h1 with e | h1
                  · exact ea (e ▸ z)
                  · exact ih h1 h2
            exact this hy e3
          rw [e4]
    · rw [if_neg e] at h ⊢
      show (if x.1 = j then some x.2 else look (setL r k v) j) = _
      rw [look_setL r j h]
      by_cases e1 : x.1 = j
      · rw [if_pos e1, if_pos e1, if_neg fun z => e (e1.trans z.symm)]
      · rw [if_neg e1, if_neg e1]
theorem look_putG {κ α : Type} [DecidableEq κ] (l : List (κ × α)) (k : κ) (v : α) (j : κ) : look (putG l k v) j = if k = j then some v else look l j := by
  unfold putG
  by_cases e : (look l k).isSome = true
  · rw [if_pos e]
    exact look_setL l j e
  · rw [if_neg e]
    exact look_append l j (by simpa using e)
/-! ### the tables are made one by one -/
structure IniAt (H0 : Hp) (C dx x : Addr) (H : Hp) (fs : List (Str × V)) (l : List (Addr × HO)) : Prop where
  ob : H x = some (.ins C dx fs)
  ta : ∀ e ∈ l, H e.1 = some e.2
  nd : (l.map (·.1)).Nodup
  nx : ∀ e ∈ l, e.1 ≠ x
  nw : ∀ e ∈ l, H0 e.1 = none
  fr : ∀ b o, H0 b = some o → b ≠ x → H b = some o
theorem IniAt.alloc {H0 : Hp} {C dx x : Addr} {H : Hp} {fs : List (Str × V)} {l : List (Addr × HO)} (i : IniAt H0 C dx x H fs l) {p : Addr} (o : HO) (n : H p = none) : IniAt H0 C dx x (upd H p o) fs (l ++ [(p, o)]) := by
  have hpx : p ≠ x := fun z => by rw [z, i.ob] at n; cases n
  refine ⟨by rw [upd_ne (Ne.symm hpx)]; exact i.ob, fun e he => ?_, ?_, fun e he => ?_, fun e he => ?_, fun b u e nb => ?_⟩
  · rcases List.mem_append.mp he with he | he
    · exact upd_new (i.ta e he) n
    · rw [List.mem_singleton.mp he]
      exact upd_same
  · rw [List.map_append, List.nodup_append]
    refine ⟨i.nd, by simp, fun a ha b hb e => ?_⟩
    have hb : b = p := by simpa using hb
    obtain ⟨y, hy, rfl⟩ := List.mem_map.mp ha
    have := i.ta y hy
    rw [e, hb, n] at this
    cases this
  · rcases List.mem_append.mp he with he | he
    · exact i.nx e he
    · rw [List.mem_singleton.mp he]
      exact hpx
  · rcases List.mem_append.mp he with he | he
    · exact i.nw e he
    · rw [List.mem_singleton.mp he]
      cases q : H0 p with
      | none => rfl
      | some o => rw [i.fr p o q hpx] at n; cases n
  · exact upd_new (i.fr b u e nb) n
theorem IniAt.set {H0 : Hp} {C dx x : Addr} {H : Hp} {fs : List (Str × V)} {l : List (Addr × HO)} (i : IniAt H0 C dx x H fs l) (gs : List (Str × V)) : IniAt H0 C dx x (upd H x (.ins C dx gs)) gs l :=
  ⟨upd_same, fun e he => by rw [upd_ne (i.nx e he)]; exact i.ta e he, i.nd, i.nx, i.nw, fun b o e n => by rw [upd_ne n]; exact i.fr b o e n⟩
theorem IniAt.rd {H0 : Hp} {C dx x : Addr} {H : Hp} {fs : List (Str × V)} {l : List (Addr × HO)} (i : IniAt H0 C dx x H fs l) (hl : l.length = 12) (ad : Nat → Addr) (ha : ∀ j, j < 12 → ∃ o, l[j]? = some (ad j, o) ∧ (tabs RdM.empty)[j]? = some o) (hf : fs = rflds ad none) : RdAt C H x ad RdM.empty ∧ ∀ j, j < 12 → H0 (ad j) = none := by
  have mem : ∀ j, j < 12 → ∃ o, (ad j, o) ∈ l ∧ (tabs RdM.empty)[j]? = some o := fun j hj => by
    obtain ⟨o, h1, h2⟩ := ha j hj
    exact ⟨o, List.mem_of_getElem? h1, h2⟩
  refine ⟨⟨⟨dx, by rw [i.ob, hf]; rfl⟩, fun j hj => ?_, fun a b hA hB e => ?_, fun j hj => ?_, ⟨fun y hy => (by cases hy), fun y hy => (by cases hy), fun y hy => (by cases hy)⟩⟩, fun j hj => ?_⟩
  · obtain ⟨o, h1, h2⟩ := mem j hj
    rw [h2]
    exact i.ta _ h1
  · obtain ⟨o1, h1, _⟩ := ha a hA
    obtain ⟨o2, h2, _⟩ := ha b hB
    have e1 : (l.map (·.1))[a]? = some (ad a) := by rw [List.getElem?_map, h1]; rfl
    have e2 : (l.map (·.1))[b]? = some (ad a) := by rw [List.getElem?_map, h2, e]; rfl
    have la : a < (l.map (·.1)).length := (List.getElem?_eq_some_iff.mp e1).1
    have lb : b < (l.map (·.1)).length := (List.getElem?_eq_some_iff.mp e2).1
    have g1 := (List.getElem?_eq_some_iff.mp e1).2
    have g2 := (List.getElem?_eq_some_iff.mp e2).2
    have pw := List.pairwise_iff_getElem.mp i.nd
    rcases Nat.lt_trichotomy a b with q | q | q
    · exact absurd (g1.trans g2.symm) (pw a b la lb q)
    · exact q
    · exact absurd (g2.trans g1.symm) (pw b a lb la q)
  · obtain ⟨o, h1, _⟩ := mem j hj
    exact (i.nx _ h1).symm
  · obtain ⟨o, h1, _⟩ := mem j hj
    exact i.nw _ h1
end MP
end
section
open PySem L2 MPX MP
local macro_rules | `(tactic| walk_at "rd1") => `(tactic| first
  | with_reducible refine x_seq ?_
  | with_reducible refine x_next ?_
  | with_reducible refine x_ret ?_
  | with_reducible refine x_retN ?_
  | with_reducible refine x_ifs ?_
  | with_reducible refine x_asg ?_
  | with_reducible refine x_drop ?_
  | with_reducible refine x_name ?_
  | ((with_reducible refine' x_var ?vv ?_); (case vv => exact rfl))
  | with_reducible refine x_c ?_
  | with_reducible refine x_op ?_
  | with_reducible refine x_un ?_
  | with_reducible refine x_test ?_
  | with_reducible refine x_tB ?_
  | with_reducible refine x_and ?_
  | with_reducible refine x_or ?_
  | with_reducible refine x_not ?_
  | with_reducible refine x_andV ?_
  | with_reducible refine x_orV ?_
  | with_reducible refine x_notV ?_
  | with_reducible refine x_if ?_
  | with_reducible refine x_nil ?_
  | with_reducible refine x_cons ?_
  | with_reducible refine x_tup ?_
  | with_reducible refine x_lst ?_
  | with_reducible refine x_cb ?_
  | with_reducible refine x_call ?_
  | with_reducible refine x_callS ?_
  | with_reducible refine x_callP ?_
  | with_reducible refine x_mk0 ?_
  | with_reducible refine x_mk1 ?_
  | with_reducible refine x_mk2 ?_
  | with_reducible refine x_make ?_
  | with_reducible refine x_sfld ?_
  | with_reducible refine x_din ?_
  | with_reducible refine x_dnin ?_
  | with_reducible refine x_fldS ?_
  | with_reducible refine x_sl3 ?_
  | ((with_reducible refine' r_rd ?vr ?vt ?vm ?vl ?vq); (case vr => (with_reducible assumption)); (case vt => assumption); (case vm => decide +kernel); (case vl => exact rfl))
  | with_reducible refine x_m0 ?_
  | with_reducible refine x_m1 ?_
  | with_reducible refine x_bm0 ?_
  | with_reducible refine x_bm ?_
  | with_reducible refine x_par ?_
  | with_reducible refine x_ilist ?_
  | with_reducible refine x_itup ?_
  | with_reducible refine x_istr ?_
  | ((with_reducible show tLc _ _ _ _ _ _ _ _); unfold tLc)
  | ((with_reducible show tFor _ _ _ _ _ _); unfold tFor)
  | ((with_reducible refine' x_eq ?vv ?_); (case vv => exact rfl))
  | ((with_reducible refine' x_ne ?vv ?_); (case vv => exact rfl))
  | with_reducible refine x_rI0 ?_
  | with_reducible refine x_dgetR ?_
  | with_reducible refine x_dputR ?_
  | with_reducible refine x_dnew ?_
  | with_reducible refine x_dget1 ?_
  | with_reducible refine x_dget2 ?_
  | with_reducible refine x_sl ?_
  | with_reducible refine x_nopart ?_
  | with_reducible refine x_part ?_
  | ((with_reducible refine' x_slL ?vv ?_); (case vv => (with_reducible assumption)))
  | with_reducible refine x_disp ?_
  | with_reducible refine x_pcons ?_
  | with_reducible refine x_pnil ?_
  | ((with_reducible refine' x_mod ?vv ?_); (case vv => omega); intro r er hr0 hr1; (try clear er))
  | ((with_reducible refine' x_rI ?vv ?_); (case vv => walk_at "sc"))
  | (with_reducible refine Or.inl (Exists.intro _ (And.intro rfl ?_)))
  | with_reducible refine x_T ?_
  | with_reducible refine x_F ?_
  | ((with_reducible show Exists (α := V) _); (with_reducible apply Exists.intro))
  | ((with_reducible show Exists (α := Bool) _); (with_reducible apply Exists.intro))
  | ((with_reducible show Exists (α := Nat) _); (with_reducible apply Exists.intro))
  | ((with_reducible show Exists (α := Int) _); (with_reducible apply Exists.intro))
  | ((with_reducible show Exists (α := List V) _); (with_reducible apply Exists.intro))
  | ((with_reducible show Exists (α := PySem.Str) _); (with_reducible apply Exists.intro))
  | ((with_reducible show Exists (α := Option V) _); (with_reducible apply Exists.intro))
  | ((with_reducible show Exists (α := Option Int) _); (with_reducible apply Exists.intro))
  | ((with_reducible show Exists (α := List (Key × V)) _); (with_reducible apply Exists.intro))
  | refine And.intro rfl ?_
  | ((with_reducible refine And.intro ?vv ?_); (case vv => (first | (with_reducible assumption) | (show _ ≤ sizeLine; decide) | exact len_ok rfl)))
  | (refine And.intro (Exists.intro _ rfl) ?_))
local macro_rules | `(tactic| walk_at "sc") => `(tactic| first
  | (with_reducible assumption)
  | exact divW (by omega) (by omega)
  | exact mulW (by omega) (by omega)
  | exact Or.inl ⟨by omega, by omega⟩
  | exact Or.inr ⟨by omega, by omega⟩
  | (show (_ : Int) ≠ 0; omega)
  | exact ⟨by decide, by decide, by decide⟩
  | decide)
local macro_rules | `(tactic| walk_at "rd") => `(tactic| repeat walk_at "rd1")
namespace MP
open PySem L2
section
variable {P : Program} {w : World} {K : PySem.W.Frag} {mg : Str → Option Value} {base : Heap} {ts : Nat → Tok} {kw C : Addr}
abbrev s_read_start : Stmt := topS 28
abbrev N_read_start : List Str := ["reading", "words"]
abbrev P_read_start : List Str := ["reading", "words"]
theorem sc_read_start : FnScope N_read_start P_read_start (defScope s_read_start) := ⟨rfl, rfl, rfl, by decide +kernel, rfl, by decide +kernel, by decide +kernel⟩
abbrev s_read_proc : Stmt := topS 29
abbrev N_read_proc : List Str := ["reading", "words", "line"]
abbrev P_read_proc : List Str := ["reading", "words", "line"]
theorem sc_read_proc : FnScope N_read_proc P_read_proc (defScope s_read_proc) := ⟨rfl, rfl, rfl, by decide +kernel, rfl, by decide +kernel, by decide +kernel⟩
abbrev s_read_end : Stmt := topS 31
abbrev N_read_end : List Str := ["reading", "line", "first"]
abbrev P_read_end : List Str := ["reading", "line"]
theorem sc_read_end : FnScope N_read_end P_read_end (defScope s_read_end) := ⟨rfl, rfl, rfl, by decide +kernel, rfl, by decide +kernel, by decide +kernel⟩
abbrev s_read_or : Stmt := topS 32
abbrev N_read_or : List Str := ["reading", "line", "first"]
abbrev P_read_or : List Str := ["reading", "line"]
theorem sc_read_or : FnScope N_read_or P_read_or (defScope s_read_or) := ⟨rfl, rfl, rfl, by decide +kernel, rfl, by decide +kernel, by decide +kernel⟩
abbrev s_read_leave : Stmt := topS 33
abbrev N_read_leave : List Str := ["reading", "line", "first"]
abbrev P_read_leave : List Str := ["reading", "line"]
theorem sc_read_leave : FnScope N_read_leave P_read_leave (defScope s_read_leave) := ⟨rfl, rfl, rfl, by decide +kernel, rfl, by decide +kernel, by decide +kernel⟩
abbrev s_read_block : Stmt := topS 34
abbrev N_read_block : List Str := ["reading", "kind", "line"]
abbrev P_read_block : List Str := ["reading", "kind", "line"]
theorem sc_read_block : FnScope N_read_block P_read_block (defScope s_read_block) := ⟨rfl, rfl, rfl, by decide +kernel, rfl, by decide +kernel, by decide +kernel⟩
abbrev s_read_do : Stmt := topS 30
abbrev N_read_do : List Str := ["reading", "words", "line", "items", "word", "item"]
abbrev P_read_do : List Str := ["reading", "words", "line"]
theorem sc_read_do : FnScope N_read_do P_read_do (defScope s_read_do) := ⟨rfl, rfl, rfl, by decide +kernel, rfl, by decide +kernel, by decide +kernel⟩
abbrev s_read_mode : Stmt := topS 27
abbrev N_read_mode : List Str := ["reading", "words", "many", "prices", "value", "price"]
abbrev P_read_mode : List Str := ["reading", "words"]
theorem sc_read_mode : FnScope N_read_mode P_read_mode (defScope s_read_mode) := ⟨rfl, rfl, rfl, by decide +kernel, rfl, by decide +kernel, by decide +kernel⟩
abbrev s_read_inside : Stmt := topS 35
abbrev N_read_inside : List Str := ["reading", "words", "line", "kind"]
abbrev P_read_inside : List Str := ["reading", "words", "line"]
theorem sc_read_inside : FnScope N_read_inside P_read_inside (defScope s_read_inside) := ⟨rfl, rfl, rfl, by decide +kernel, rfl, by decide +kernel, by decide +kernel⟩
abbrev s_read_line : Stmt := topS 36
abbrev N_read_line : List Str := ["reading", "words", "line"]
abbrev P_read_line : List Str := ["reading", "words", "line"]
theorem sc_read_line : FnScope N_read_line P_read_line (defScope s_read_line) := ⟨rfl, rfl, rfl, by decide +kernel, rfl, by decide +kernel, by decide +kernel⟩
abbrev s_read_text : Stmt := topS 37
abbrev N_read_text : List Str := ["text", "lines", "reading", "line", "row", "words", "missing", "name"]
abbrev P_read_text : List Str := ["text"]
theorem sc_read_text : FnScope N_read_text P_read_text (defScope s_read_text) := ⟨rfl, rfl, rfl, by decide +kernel, rfl, by decide +kernel, by decide +kernel⟩
abbrev s_Reading___init__ : Stmt := inClass (topS 26) 0
abbrev N_Reading___init__ : List Str := ["self"]
abbrev P_Reading___init__ : List Str := ["self"]
theorem sc_Reading___init__ : FnScope N_Reading___init__ P_Reading___init__ (defScope s_Reading___init__) := ⟨rfl, rfl, rfl, by decide +kernel, rfl, by decide +kernel, by decide +kernel⟩
structure ReadTxt (K : PySem.W.Frag) (mg : Str → Option Value) (ts : Nat → Tok) (C : Addr) : Prop where
  b_len : mg "len" = none
  b_zip : mg "zip" = none
  b_int : mg "int" = none
  b_list : mg "list" = none
  b_reversed : mg "reversed" = none
  b_enumerate : mg "enumerate" = none
  g_MOST_CHARACTERS : mg "MOST_CHARACTERS" = some (.int 6000 (ts 5))
  g_MOST_LINES : mg "MOST_LINES" = some (.int 120 (ts 6))
  g_MOST_MODES : mg "MOST_MODES" = some (.int 6 (ts 7))
  g_MOST_VALUES : mg "MOST_VALUES" = some (.int 6 (ts 8))
  g_MOST_PROCEDURES : mg "MOST_PROCEDURES" = some (.int 6 (ts 9))
  g_MOST_BLOCKS : mg "MOST_BLOCKS" = some (.int 8 (ts 10))
  g_MOST_ITEMS : mg "MOST_ITEMS" = some (.int 6 (ts 11))
  rd : RdTxt K C
/-- the words of a line -/
structure WdAt (K : PySem.W.Frag) (H : Hp) (p : Addr) (ad : Nat → Addr) (a : Addr) (ws : List Str) : Prop where
  at_ : H a = some (.lst (ws.map V.str))
  np : a ≠ p
  ni : ∀ i < 12, a ≠ ad i
  len : ws.length < 10000
  el : ∀ w ∈ ws, w.length ≤ 10000
theorem WdAt.fro {H H' : Hp} {p : Addr} {ad : Nat → Addr} {a : Addr} {ws : List Str} (x : WdAt K H p ad a ws) (f : Fro p ad H H') : WdAt K H' p ad a ws := ⟨f _ _ x.at_ x.np x.ni, x.np, x.ni, x.len, x.el⟩
theorem WdAt.same {H H' : Hp} {p : Addr} {ad : Nat → Addr} {a : Addr} {ws : List Str} (x : WdAt K H p ad a ws) (f : Same H H') : WdAt K H' p ad a ws := x.fro (Fro.of f)
def sp_read_start (K : PySem.W.Frag) (C : Addr) : Sp := fun vs H Q _ => ∃ (p : Addr) (ad : Nat → Addr) (R : RdM) (a : Addr) (ws : List Str), vs = [.ref p, .ref a] ∧ RdAt C H p ad R ∧ Sm R ∧ WdAt K H p ad a ws ∧ RdPost C p ad H (okStart R ws) (fun _ => stStart R ws) Q
theorem ok_read_start {f : Addr} {fd : FuncData} (F : Fun K "read_start" "read_start" s_read_start f fd) (T : ReadTxt K mg ts C) : FnOk P w K mg base CX0 1 f fd P_read_start (sp_read_start K C) := by
  refine F.ok sc_read_start (fun vs H Q E h => ?_) (fun cdv A outer s H vs Q E hr h => ?_)
  · obtain ⟨p, ad, R, a, ws, rfl, _⟩ := h
    rfl
  · obtain ⟨p, ad, R, a, ws, rfl, r, sm, x, k0, k1⟩ := h
    have hu := hu_of hr
    have hu0 : _ < cLine := Nat.lt_of_succ_lt hu
    have Tr := T.rd
    refine ⟨_, (pss_cons (ps_if (PW.pt (pw_or (pt_cmpR op_ne (pe_callB call_len_seq (by rfl) T.b_len (by decide +kernel) (pa_cons (pv 1) pa_nil)) pe_int (nomark _)) (pw_or (pt_cmpR (op_neD0 hu0) (pe_fld (pv 0) rfl) pe_dnewK (nomark _)) (pw_or1 (pt_cmp (pc_dnotin hu (pe_ix ix_list (pv 1) pe_int (fun _ _ => rfl)) (pe_fld (pv 0) rfl))))))) (pss_one (ps_ret pe_bl)) pss_nil)
      (pss_cons (ps_if (PW.pt (pw_or (pt_cmp (pc_din hu (pe_ix ix_list (pv 1) pe_int (fun _ _ => rfl)) (pe_fld (pv 0) rfl))) (pw_or1 (pt_cmp (pc_dnotin hu (pe_ix ix_list (pv 1) pe_int (fun _ _ => rfl)) (pe_dget hu (pe_fld (pv 0) rfl) (pe_ix ix_list (pv 1) pe_int (fun _ _ => rfl)) (fun _ _ => rfl))))))) (pss_one (ps_ret pe_bl)) pss_nil)
      (pss_cons (ps_dput hu (pe_fld (pv 0) rfl) (pe_ix ix_list (pv 1) pe_int (fun _ _ => rfl)) (pe_ix ix_list (pv 1) pe_int (fun _ _ => rfl)) rfl)
      (pss_one (ps_ret pe_bl))))), ?_⟩
    show tSeq _ _ _ [some (V.ref p), some (V.ref a)] H
    walk_at "rd"
    refine ⟨Or.inl (SqL.of x.at_), ?_⟩
    walk_at "rd"
    refine x_ND (fun h1 => ?_) (fun h1 => ?_)
    · walk_at "rd"
      refine k0 ?_ _ Fro.refl
      match ws, h1 with
      | [], _ => rfl
      | [_], _ => rfl
      | [_, _], _ => rfl
      | [_, _, _], h => exact absurd rfl h
      | _ :: _ :: _ :: _ :: _, _ => rfl
    have h2 : ws.length = 3 := by have := V.int.inj h1; rw [List.length_map] at this; omega
    obtain ⟨w0, m, v, rfl⟩ : ∃ a b c, ws = [a, b, c] := match ws, h2 with | [a, b, c], _ => ⟨a, b, c, rfl⟩
    clear h1 h2
    walk_at "rd"
    intro e ne
    generalize eH : upd H e _ = H1
    have s1 : Same H H1 := eH ▸ same_upd ne
    have e1 : H1 e = some (.dK []) := eH ▸ upd_same
    clear eH
    replace r := r.same s1
    replace x := x.same s1
    have f1 : Fro p ad H H1 := Fro.of s1
    refine x_neD0 r.t2 e1 ?_
    rw [kS_nil]
    walk_at "rd"
    refine x_NB (fun h1 => ?_) (fun h1 => ?_)
    · walk_at "rd"
      refine k0 ?_ _ f1
      show (R.routines.isEmpty && _ && _ && _) = false
      rw [h1]
      rfl
    walk_at "rd"
    refine x_ixL (SqL.of x.at_) (atI_nat (j := 1) rfl) ?_
    walk_at "rd"
    refine r_dninS r.t0 ?_
    walk_at "rd"
    refine x_NB (fun h2 => ?_) (fun h2 => ?_)
    · walk_at "rd"
      refine k0 ?_ _ f1
      show (_ && (look R.modes m).isSome && _ && _) = false
      rw [h2]
      simp
    obtain ⟨mv, hmv⟩ := Option.isSome_iff_exists.mp h2
    walk_at "rd"
    refine x_ixL (SqL.of x.at_) (atI_nat (j := 1) rfl) ?_
    walk_at "rd"
    refine r_dinS r.t1 ?_
    walk_at "rd"
    refine x_B (fun h3 => ?_) (fun h3 => ?_)
    · walk_at "rd"
      refine k0 ?_ _ f1
      show (_ && _ && !(look R.begins m).isSome && _) = false
      rw [h3]
      simp
    walk_at "rd"
    refine x_ixL (SqL.of x.at_) (atI_nat (j := 2) rfl) ?_
    walk_at "rd"
    refine x_ixL (SqL.of x.at_) (atI_nat (j := 1) rfl) ?_
    walk_at "rd"
    refine r_getS r.t0 hmv ?_
    walk_at "rd"
    refine r_dninS (r.ne.mo _ (look_mem hmv)).1 ?_
    walk_at "rd"
    have ke : okStart R [w0, m, v] = (look mv.2 v).isSome := by
      show (R.routines.isEmpty && (look R.modes m).isSome && !(look R.begins m).isSome && (match look R.modes m with | some x => (look x.2 v).isSome | none => false)) = _
      rw [h1, h2, h3, hmv]
      rfl
    rw [ke] at k0 k1
    refine x_NB (fun h4 => ?_) (fun h4 => ?_)
    · walk_at "rd"
      exact k0 h4 _ f1
    walk_at "rd"
    refine x_ixL (SqL.of x.at_) (atI_nat (j := 2) rfl) ?_
    walk_at "rd"
    refine x_ixL (SqL.of x.at_) (atI_nat (j := 1) rfl) ?_
    walk_at "rd"
    refine r_putGS v r.t1 (lt5 sm.s1) ?_
    walk_at "rd"
    exact k1 h4 0 _ (f1.trans (Fro.put (by decide))) (r.put 1 (by decide) rfl rfl ⟨r.ne.mo, r.ne.os, r.ne.wo⟩)
def sp_read_proc (K : PySem.W.Frag) (C : Addr) : Sp := fun vs H Q _ => ∃ (p : Addr) (ad : Nat → Addr) (R : RdM) (a : Addr) (ws : List Str) (line : Int), vs = [.ref p, .ref a, .int line] ∧ RdAt C H p ad R ∧ Sm R ∧ WdAt K H p ad a ws ∧ RdPost C p ad H (okProc isName R ws) (fun _ => stProc R line ws) Q
theorem ok_read_proc {f : Addr} {fd : FuncData} (F : Fun K "read_proc" "read_proc" s_read_proc f fd) (T : ReadTxt K mg ts C) (c_is_name : Cal P w K mg base 2 "is_name" sp_is_name) : FnOk P w K mg base CX0 3 f fd P_read_proc (sp_read_proc K C) := by
  refine F.ok sc_read_proc (fun vs H Q E h => ?_) (fun cdv A outer s H vs Q E hr h => ?_)
  · obtain ⟨p, ad, R, a, ws, line, rfl, _⟩ := h
    rfl
  · obtain ⟨p, ad, R, a, ws, line, rfl, r, sm, x, k0, k1⟩ := h
    have hu := hu_of hr
    have hu0 : _ < cLine := Nat.lt_of_succ_lt hu
    have Tr := T.rd
    refine ⟨_, (pss_cons (ps_if (PW.pt (pw_or (pt_cmpR op_ne (pe_callB call_len_seq (by rfl) T.b_len (by decide +kernel) (pa_cons (pv 1) pa_nil)) pe_int (nomark _)) (pw_or (pt_cmpR op_notN (pe_fld (pv 0) rfl) pe_non (nomark _)) (pw_or1 (pt_not (pt_val (pe_cc c_is_name hr (by decide) rfl (pa_cons (pe_ix ix_list (pv 1) pe_int (fun _ _ => rfl)) pa_nil)))))))) (pss_one (ps_ret pe_bl)) pss_nil)
      (pss_cons (ps_if (PW.pt (pw_or (pt_cmp (pc_din hu (pe_ix ix_list (pv 1) pe_int (fun _ _ => rfl)) (pe_fld (pv 0) rfl))) (pw_or1 (pt_cmpR op_eq (pe_callB call_lenD (by rfl) T.b_len (by decide +kernel) (pa_cons (pe_fld (pv 0) rfl) pa_nil)) (pe_glob (v := V.int _) rfl T.g_MOST_PROCEDURES ⟨_, rfl⟩) (nomark _))))) (pss_one (ps_ret pe_bl)) pss_nil)
      (pss_cons (ps_dput hu (pe_fld (pv 0) rfl) (pe_ix ix_list (pv 1) pe_int (fun _ _ => rfl)) (pv 2) rfl)
      (pss_cons (ps_fld (pv 0) (pe_ix ix_list (pv 1) pe_int (fun _ _ => rfl)) rfl)
      (pss_one (ps_ret pe_bl)))))), ?_⟩
    show tSeq _ _ _ [some (V.ref p), some (V.ref a), some (V.int line)] H
    walk_at "rd"
    refine ⟨Or.inl (SqL.of x.at_), ?_⟩
    walk_at "rd"
    refine x_ND (fun h1 => ?_) (fun h1 => ?_)
    · walk_at "rd"
      refine k0 ?_ _ Fro.refl
      match ws, h1 with
      | [], _ => rfl
      | [_], _ => rfl
      | [_, _], h => exact absurd rfl h
      | _ :: _ :: _ :: _, _ => rfl
    have h2 : ws.length = 2 := by have := V.int.inj h1; rw [List.length_map] at this; omega
    obtain ⟨w0, n, rfl⟩ : ∃ a b, ws = [a, b] := match ws, h2 with | [a, b], _ => ⟨a, b, rfl⟩
    clear h1 h2
    have hln := x.el n (by simp)
    walk_at "rd"
    have ke : okProc isName R [w0, n] = (R.owner.isNone && isName n && !(look R.routines n).isSome && !decide (R.routines.length = 6)) := rfl
    refine x_ND (fun h1 => ?_) (fun h1 => ?_)
    · walk_at "rd"
      refine k0 ?_ _ Fro.refl
      rw [ke]
      have : R.owner.isNone = false := by
        cases e : R.owner with
        | none => exact absurd (own_non.mpr e) h1
        | some o => rfl
      rw [this]
      rfl
    have ho : R.owner = none := own_non.mp h1
    rw [show R.owner.isNone = true by rw [ho]; rfl] at ke
    walk_at "rd"
    refine x_ixL (SqL.of x.at_) (atI_nat (j := 1) rfl) ?_
    walk_at "rd"
    refine ⟨n, rfl, hln, ?_⟩
    walk_at "rd"
    refine x_NB (fun h2 => ?_) (fun h2 => ?_)
    · walk_at "rd"
      refine k0 ?_ _ Fro.refl
      rw [ke, h2]
      rfl
    walk_at "rd"
    refine x_ixL (SqL.of x.at_) (atI_nat (j := 1) rfl) ?_
    walk_at "rd"
    refine r_dinS r.t2 ?_
    walk_at "rd"
    refine x_B (fun h3 => ?_) (fun h3 => ?_)
    · walk_at "rd"
      refine k0 ?_ _ Fro.refl
      rw [ke, h3]
      simp
    have t2 := r.t2
    walk_at "rd"
    rw [kS_len]
    refine x_D (fun h4 => ?_) (fun h4 => ?_)
    · walk_at "rd"
      refine k0 ?_ _ Fro.refl
      have : R.routines.length = 6 := by have := V.int.inj h4; omega
      rw [ke, decide_eq_true this]
      simp
    walk_at "rd"
    refine x_ixL (SqL.of x.at_) (atI_nat (j := 1) rfl) ?_
    walk_at "rd"
    refine r_putGS line r.t2 (lt5 sm.s2) ?_
    have r2 : RdAt C _ p ad { R with routines := putG R.routines n line } := r.put (o := .dK (kS V.int (putG R.routines n line))) 2 (by decide) rfl rfl ⟨r.ne.mo, r.ne.os, r.ne.wo⟩
    have f2 : Fro p ad H _ := Fro.put (o := .dK (kS V.int (putG R.routines n line))) (i := 2) (by decide)
    replace x := x.fro f2
    obtain ⟨dx, hob⟩ := r2.ob
    walk_at "rd"
    refine x_ixL (SqL.of x.at_) (atI_nat (j := 1) rfl) ?_
    walk_at "rd"
    refine ⟨_, rfl, hob, T.rd.cl, T.rd.na _ (by decide +kernel), Nat.le_of_ble_eq_true rfl, ?_⟩
    walk_at "rd"
    refine k1 ?_ 0 _ (f2.trans Fro.own) (r2.own (some n) dx)
    rw [ke, h2, h3, decide_eq_false (show ¬ R.routines.length = 6 from fun z => h4 (by rw [z]; rfl))]
    rfl
end
end MP
end
section
open PySem L2 MPX MP
local macro_rules | `(tactic| walk_at "rd1") => `(tactic| first
  | with_reducible refine x_seq ?_
  | with_reducible refine x_next ?_
  | with_reducible refine x_ret ?_
  | with_reducible refine x_retN ?_
  | with_reducible refine x_ifs ?_
  | with_reducible refine x_asg ?_
  | with_reducible refine x_drop ?_
  | with_reducible refine x_name ?_
  | ((with_reducible refine' x_var ?vv ?_); (case vv => exact rfl))
  | with_reducible refine x_c ?_
  | with_reducible refine x_op ?_
  | with_reducible refine x_un ?_
  | with_reducible refine x_test ?_
  | with_reducible refine x_tB ?_
  | with_reducible refine x_and ?_
  | with_reducible refine x_or ?_
  | with_reducible refine x_not ?_
  | with_reducible refine x_andV ?_
  | with_reducible refine x_orV ?_
  | with_reducible refine x_notV ?_
  | with_reducible refine x_if ?_
  | with_reducible refine x_nil ?_
  | with_reducible refine x_cons ?_
  | with_reducible refine x_tup ?_
  | with_reducible refine x_lst ?_
  | with_reducible refine x_cb ?_
  | with_reducible refine x_call ?_
  | with_reducible refine x_callS ?_
  | with_reducible refine x_callP ?_
  | with_reducible refine x_mk0 ?_
  | with_reducible refine x_mk1 ?_
  | with_reducible refine x_mk2 ?_
  | with_reducible refine x_make ?_
  | with_reducible refine x_sfld ?_
  | with_reducible refine x_din ?_
  | with_reducible refine x_dnin ?_
  | with_reducible refine x_fldS ?_
  | with_reducible refine x_sl3 ?_
  | ((with_reducible refine' r_rd ?vr ?vt ?vm ?vl ?vq); (case vr => (with_reducible assumption)); (case vt => assumption); (case vm => decide +kernel); (case vl => exact rfl))
  | with_reducible refine x_m0 ?_
  | with_reducible refine x_m1 ?_
  | with_reducible refine x_bm0 ?_
  | with_reducible refine x_bm ?_
  | with_reducible refine x_par ?_
  | with_reducible refine x_ilist ?_
  | with_reducible refine x_itup ?_
  | with_reducible refine x_istr ?_
  | ((with_reducible show tLc _ _ _ _ _ _ _ _); unfold tLc)
  | ((with_reducible show tFor _ _ _ _ _ _); unfold tFor)
  | ((with_reducible refine' x_eq ?vv ?_); (case vv => exact rfl))
  | ((with_reducible refine' x_ne ?vv ?_); (case vv => exact rfl))
  | with_reducible refine x_rI0 ?_
  | with_reducible refine x_dgetR ?_
  | with_reducible refine x_dputR ?_
  | with_reducible refine x_dnew ?_
  | with_reducible refine x_dget1 ?_
  | with_reducible refine x_dget2 ?_
  | with_reducible refine x_sl ?_
  | with_reducible refine x_nopart ?_
  | with_reducible refine x_part ?_
  | ((with_reducible refine' x_slL ?vv ?_); (case vv => (with_reducible assumption)))
  | with_reducible refine x_disp ?_
  | with_reducible refine x_pcons ?_
  | with_reducible refine x_pnil ?_
  | ((with_reducible refine' x_mod ?vv ?_); (case vv => omega); intro r er hr0 hr1; (try clear er))
  | ((with_reducible refine' x_rI ?vv ?_); (case vv => walk_at "sc"))
  | (with_reducible refine Or.inl (Exists.intro _ (And.intro rfl ?_)))
  | with_reducible refine x_T ?_
  | with_reducible refine x_F ?_
  | ((with_reducible show Exists (α := V) _); (with_reducible apply Exists.intro))
  | ((with_reducible show Exists (α := Bool) _); (with_reducible apply Exists.intro))
  | ((with_reducible show Exists (α := Nat) _); (with_reducible apply Exists.intro))
  | ((with_reducible show Exists (α := Int) _); (with_reducible apply Exists.intro))
  | ((with_reducible show Exists (α := List V) _); (with_reducible apply Exists.intro))
  | ((with_reducible show Exists (α := PySem.Str) _); (with_reducible apply Exists.intro))
  | ((with_reducible show Exists (α := Option V) _); (with_reducible apply Exists.intro))
  | ((with_reducible show Exists (α := Option Int) _); (with_reducible apply Exists.intro))
  | ((with_reducible show Exists (α := List (Key × V)) _); (with_reducible apply Exists.intro))
  | refine And.intro rfl ?_
  | ((with_reducible refine And.intro ?vv ?_); (case vv => (first | (with_reducible assumption) | (show _ ≤ sizeLine; decide) | exact len_ok rfl)))
  | (refine And.intro (Exists.intro _ rfl) ?_))
local macro_rules | `(tactic| walk_at "sc") => `(tactic| first
  | (with_reducible assumption)
  | exact divW (by omega) (by omega)
  | exact mulW (by omega) (by omega)
  | exact Or.inl ⟨by omega, by omega⟩
  | exact Or.inr ⟨by omega, by omega⟩
  | (show (_ : Int) ≠ 0; omega)
  | exact ⟨by decide, by decide, by decide⟩
  | decide)
local macro_rules | `(tactic| walk_at "rd") => `(tactic| repeat walk_at "rd1")
namespace MP
open PySem L2
section
variable {P : Program} {w : World} {K : PySem.W.Frag} {mg : Str → Option Value} {base : Heap} {ts : Nat → Tok} {kw C : Addr}
def sp_read_end (C : Addr) : Sp := fun vs H Q _ => ∃ (p : Addr) (ad : Nat → Addr) (R : RdM) (line : Int) (o : Str), vs = [.ref p, .int line] ∧ RdAt C H p ad R ∧ Sm R ∧ R.owner = some o ∧ ∀ H', Fro p ad H H' → RdAt C H' p ad (stEnd R line) → Q .non H'
theorem ok_read_end {f : Addr} {fd : FuncData} (F : Fun K "read_end" "read_end" s_read_end f fd) (T : ReadTxt K mg ts C) : FnOk P w K mg base CX0 1 f fd P_read_end (sp_read_end C) := by
  refine F.ok sc_read_end (fun vs H Q E h => ?_) (fun cdv A outer s H vs Q E hr h => ?_)
  · obtain ⟨p, ad, R, line, o, rfl, _⟩ := h
    rfl
  · obtain ⟨p, ad, R, line, o, rfl, r, sm, ho, k⟩ := h
    have hu := hu_of hr
    have Tr := T.rd
    refine ⟨_, (pss_cons (ps_if (pt_cmpR (op_eqD hr.units) (pe_fld (pv 0) rfl) (pe_lst pa_nil) (nomark _)) (pss_cons (ps_dput hu (pe_fld (pv 0) rfl) (pe_fld (pv 0) rfl) (pv 1) rfl)
      (pss_cons (ps_fld (pv 0) pe_non rfl)
      (pss_one ps_retN))) pss_nil)
      (pss_cons (ps_set (i := 2) sc_read_end.nd rfl (Or.inl rfl) (pe_bm0 PySem.F.plainAttrs_list PySem.F.slot_list_pop PySem.F.type_list_pop mt_pop (pe_fld (pv 0) rfl)))
      (pss_cons (ps_dput hu (pe_fld (pv 0) rfl) (pv 2) (pv 1) rfl)
      (pss_one (ps_dput hu (pe_fld (pv 0) rfl) (pv 1) (pv 2) rfl))))), ?_⟩
    show tSeq _ _ _ [some (V.ref p), some (V.int line), none] H
    walk_at "rd"
    intro e ne
    generalize eH : upd H e _ = H1
    have s1 : Same H H1 := eH ▸ same_upd ne
    have e1 : H1 e = some (.lst []) := eH ▸ upd_same
    clear eH
    replace r := r.same s1
    have f1 : Fro p ad H H1 := Fro.of s1
    refine x_eqNil (SqL.of r.t11) e1 ?_
    walk_at "rd"
    refine x_B (fun h1 => ?_) (fun h1 => ?_)
    · have hb : R.blocks = [] := List.isEmpty_iff.mp h1
      walk_at "rd"
      rw [ho]
      refine r_putGS line r.t10 (lt5 sm.s10) ?_
      have r2 : RdAt C _ p ad { R with ends := putG R.ends o line } := r.put (o := .dK (kS V.int (putG R.ends o line))) 10 (by decide) rfl rfl ⟨r.ne.mo, r.ne.os, r.ne.wo⟩
      have f2 : Fro p ad H1 _ := Fro.put (o := .dK (kS V.int (putG R.ends o line))) (i := 10) (by decide)
      obtain ⟨dx, hob⟩ := r2.ob
      walk_at "rd"
      refine ⟨_, rfl, hob, T.rd.cl, T.rd.na _ (by decide +kernel), Nat.le_of_ble_eq_true rfl, ?_⟩
      walk_at "rd"
      have e3 : stEnd R line = { R with ends := putG R.ends o line, owner := none } := by
        unfold stEnd
        rw [hb, ho]
        rfl
      rw [e3] at k
      exact k _ ((f1.trans f2).trans Fro.own) (r2.own none dx)
    · obtain ⟨first, hf⟩ : ∃ first, R.blocks.getLast? = some first := by
        cases e : R.blocks.getLast? with
        | none => rw [List.getLast?_eq_none_iff.mp e] at h1; cases h1
        | some z => exact ⟨z, rfl⟩
      have e3 : stEnd R line = { R with blocks := R.blocks.dropLast, partners := putG (putG R.partners first line) line first } := by
        unfold stEnd
        rw [hf]
      rw [e3] at k
      walk_at "rd"
      refine ⟨Or.inl ⟨rfl, _, SqL.of r.t11⟩, ad 11, R.blocks.map V.int, V.int first, rfl, rfl, r.t11, by rw [← List.getLast?_eq_getElem?, List.getLast?_map, hf]; rfl, ?_⟩
      rw [show (R.blocks.map V.int).dropLast = R.blocks.dropLast.map V.int from List.map_dropLast.symm]
      have r2 : RdAt C _ p ad { R with blocks := R.blocks.dropLast } := r.put (o := .lst (R.blocks.dropLast.map V.int)) 11 (by decide) rfl rfl ⟨r.ne.mo, r.ne.os, r.ne.wo⟩
      have f2 : Fro p ad H1 _ := Fro.put (o := .lst (R.blocks.dropLast.map V.int)) (i := 11) (by decide)
      walk_at "rd"
      refine r_putGI line r2.t5 (lt5 sm.s5) ?_
      have r3 : RdAt C _ p ad { R with blocks := R.blocks.dropLast, partners := putG R.partners first line } := r2.put (o := .dK (kI V.int (putG R.partners first line))) 5 (by decide) rfl rfl ⟨r2.ne.mo, r2.ne.os, r2.ne.wo⟩
      have f3 : Fro p ad _ _ := f2.trans (Fro.put (o := .dK (kI V.int (putG R.partners first line))) (i := 5) (by decide))
      walk_at "rd"
      refine r_putGI first r3.t5 (lt6 (Nat.le_trans (putG_len ..) (Nat.succ_le_of_lt sm.s5))) ?_
      have r4 : RdAt C _ p ad { R with blocks := R.blocks.dropLast, partners := putG (putG R.partners first line) line first } := r3.put (o := .dK (kI V.int (putG (putG R.partners first line) line first))) 5 (by decide) rfl rfl ⟨r3.ne.mo, r3.ne.os, r3.ne.wo⟩
      have f4 : Fro p ad _ _ := f3.trans (Fro.put (o := .dK (kI V.int (putG (putG R.partners first line) line first))) (i := 5) (by decide))
      exact k _ (f1.trans f4) r4
def sp_read_block (C : Addr) : Sp := fun vs H Q _ => ∃ (p : Addr) (ad : Nat → Addr) (R : RdM) (kind : Str) (line : Int), vs = [.ref p, .str kind, .int line] ∧ RdAt C H p ad R ∧ Sm R ∧ RdPost C p ad H (okBlock R) (stBlock R kind line) Q
theorem ok_read_block {f : Addr} {fd : FuncData} (F : Fun K "read_block" "read_block" s_read_block f fd) (T : ReadTxt K mg ts C) : FnOk P w K mg base CX0 1 f fd P_read_block (sp_read_block C) := by
  refine F.ok sc_read_block (fun vs H Q E h => ?_) (fun cdv A outer s H vs Q E hr h => ?_)
  · obtain ⟨p, ad, R, kind, line, rfl, _⟩ := h
    rfl
  · obtain ⟨p, ad, R, kind, line, rfl, r, sm, k0, k1⟩ := h
    have hu := hu_of hr
    have Tr := T.rd
    refine ⟨_, (pss_cons (ps_if (pt_cmpR op_eq (pe_callB call_len_seq (by rfl) T.b_len (by decide +kernel) (pa_cons (pe_fld (pv 0) rfl) pa_nil)) (pe_glob (v := V.int _) rfl T.g_MOST_BLOCKS ⟨_, rfl⟩) (nomark _)) (pss_one (ps_ret pe_bl)) pss_nil)
      (pss_cons (ps_expr (pe_bm PySem.F.plainAttrs_list PySem.F.slot_list_append PySem.F.type_list_append mt_append (pe_fld (pv 0) rfl) (pa_cons (pv 2) pa_nil)))
      (pss_cons (ps_if (pt_cmpR op_eq (pv 1) pe_str (nomark _)) (pss_one (ps_dput hu (pe_fld (pv 0) rfl) (pv 2) (pe_tup pa_nil) rfl)) pss_nil)
      (pss_one (ps_ret pe_bl))))), ?_⟩
    show tSeq _ _ _ [some (V.ref p), some (V.str kind), some (V.int line)] H
    walk_at "rd"
    refine ⟨Or.inl (SqL.of r.t11), ?_⟩
    walk_at "rd"
    refine x_D (fun h1 => ?_) (fun h1 => ?_)
    · walk_at "rd"
      refine k0 ?_ _ Fro.refl
      have : R.blocks.length = 8 := by have := V.int.inj h1; rw [List.length_map] at this; omega
      unfold okBlock
      rw [decide_eq_true this]
      rfl
    have ke : okBlock R = true := by
      unfold okBlock
      rw [decide_eq_false fun z => h1 (by rw [List.length_map, z]; rfl)]
      rfl
    walk_at "rd"
    refine ⟨Or.inl ⟨rfl, _, SqL.of r.t11⟩, ?_⟩
    walk_at "rd"
    refine ⟨ad 11, _, V.int line, rfl, rfl, r.t11, ?_, ?_⟩
    · rw [List.length_map]
      have := sm.s11
      have := big5
      omega
    rw [show R.blocks.map V.int ++ [V.int line] = (R.blocks ++ [line]).map V.int from by rw [List.map_append]; rfl]
    have r2 : RdAt C _ p ad { R with blocks := R.blocks ++ [line] } := r.put (o := .lst ((R.blocks ++ [line]).map V.int)) 11 (by decide) rfl rfl ⟨r.ne.mo, r.ne.os, r.ne.wo⟩
    have f2 : Fro p ad H _ := Fro.put (o := .lst ((R.blocks ++ [line]).map V.int)) (i := 11) (by decide)
    walk_at "rd"
    refine x_D (fun h2 => ?_) (fun h2 => ?_)
    · walk_at "rd"
      intro q nq
      have r3 := r2.same (same_upd (o := .tup []) nq)
      have f3 : Fro p ad H _ := f2.trans (Fro.of (same_upd (o := .tup []) nq))
      have hq := r2.fresh nq
      walk_at "rd"
      refine r_putGI (f := fun x : Addr × List Int => V.ref x.1) (q, ([] : List Int)) r3.t6 (lt5 sm.s6) ?_
      have r4 : RdAt C _ p ad { R with blocks := R.blocks ++ [line], ors := putG R.ors line (q, []) } := r3.put (o := .dK (kI (fun x : Addr × List Int => V.ref x.1) (putG R.ors line (q, [])))) 6 (by decide) rfl rfl ⟨r3.ne.mo, fun x hx => by
        rcases mem_putG hx with e | hx
        · subst e
          exact ⟨upd_same, hq⟩
        · exact r3.ne.os x hx, r3.ne.wo⟩
      walk_at "rd"
      have e3 : stBlock R kind line q = { R with blocks := R.blocks ++ [line], ors := putG R.ors line (q, []) } := if_pos (V.str.inj h2)
      exact k1 ke q _ (f3.trans (Fro.put (by decide))) (e3 ▸ r4)
    · walk_at "rd"
      have e3 : stBlock R kind line 0 = { R with blocks := R.blocks ++ [line] } := if_neg fun z => h2 (by rw [z])
      exact k1 ke 0 _ f2 (e3 ▸ r2)
def sp_read_or (C : Addr) : Sp := fun vs H Q _ => ∃ (p : Addr) (ad : Nat → Addr) (R : RdM) (line : Int), vs = [.ref p, .int line] ∧ RdAt C H p ad R ∧ Sm R ∧ Sm2 R ∧ BlkT R ∧ RdPost C p ad H (okOr R) (stOr R line) Q
theorem ok_read_or {f : Addr} {fd : FuncData} (F : Fun K "read_or" "read_or" s_read_or f fd) (T : ReadTxt K mg ts C) : FnOk P w K mg base CX0 1 f fd P_read_or (sp_read_or C) := by
  refine F.ok sc_read_or (fun vs H Q E h => ?_) (fun cdv A outer s H vs Q E hr h => ?_)
  · obtain ⟨p, ad, R, line, rfl, _⟩ := h
    rfl
  · obtain ⟨p, ad, R, line, rfl, r, sm, sm2, bt, k0, k1⟩ := h
    have hu := hu_of hr
    have Tr := T.rd
    refine ⟨_, (pss_cons (ps_if (PW.pt (pw_or (pt_cmpR (op_eqD hr.units) (pe_fld (pv 0) rfl) (pe_lst pa_nil) (nomark _)) (pw_or1 (pt_cmpR op_ne (pe_dget hu (pe_fld (pv 0) rfl) (pe_ix ix_list (pe_fld (pv 0) rfl) pe_neg1 (fun _ _ => rfl)) (fun _ _ => rfl)) pe_str (nomark _))))) (pss_one (ps_ret pe_bl)) pss_nil)
      (pss_cons (ps_set (i := 2) sc_read_or.nd rfl (Or.inl rfl) (pe_ix ix_list (pe_fld (pv 0) rfl) pe_neg1 (fun _ _ => rfl)))
      (pss_cons (ps_dput hu (pe_fld (pv 0) rfl) (pv 1) (pv 2) rfl)
      (pss_cons (ps_dput hu (pe_fld (pv 0) rfl) (pv 2) (pe_op op_catA (pe_dget hu (pe_fld (pv 0) rfl) (pv 2) (fun _ _ => rfl)) (pe_tup (pa_cons (pv 1) pa_nil))) rfl)
      (pss_one (ps_ret pe_bl)))))), ?_⟩
    show tSeq _ _ _ [some (V.ref p), some (V.int line), none] H
    walk_at "rd"
    intro e ne
    generalize eH : upd H e _ = H1
    have s1 : Same H H1 := eH ▸ same_upd ne
    have e1 : H1 e = some (.lst []) := eH ▸ upd_same
    clear eH
    replace r := r.same s1
    have f1 : Fro p ad H H1 := Fro.of s1
    refine x_eqNil (SqL.of r.t11) e1 ?_
    walk_at "rd"
    refine x_B (fun h1 => ?_) (fun h1 => ?_)
    · have hb : R.blocks = [] := List.isEmpty_iff.mp h1
      walk_at "rd"
      refine k0 ?_ _ f1
      unfold okOr
      rw [hb]
      rfl
    obtain ⟨first, hf⟩ : ∃ first, R.blocks.getLast? = some first := by
      cases e : R.blocks.getLast? with
      | none => rw [List.getLast?_eq_none_iff.mp e] at h1; cases h1
      | some z => exact ⟨z, rfl⟩
    have hl : atI (R.blocks.map V.int) (-1) = some (V.int first) := at_last (by rw [List.getLast?_map, hf]; rfl)
    obtain ⟨kd, hk, hor⟩ := bt first (List.mem_of_getLast? hf)
    have ke : okOr R = decide (kd = ("either" : Str)) := by
      unfold okOr
      simp only [hf, hk]
    walk_at "rd"
    refine x_ixL (SqL.of r.t11) hl ?_
    walk_at "rd"
    refine r_getI r.t3 hk ?_
    walk_at "rd"
    refine x_ND (fun h2 => ?_) (fun h2 => ?_)
    · walk_at "rd"
      refine k0 ?_ _ f1
      rw [ke]
      exact decide_eq_false fun z => h2 (by rw [z])
    replace ke : okOr R = true := by rw [ke]; exact decide_eq_true (V.str.inj h2)
    obtain ⟨xo, hxo⟩ := Option.isSome_iff_exists.mp (hor (V.str.inj h2))
    have hso : xo.2.length < 1000 := sm2.o _ (look_mem hxo)
    walk_at "rd"
    refine x_ixL (SqL.of r.t11) hl ?_
    walk_at "rd"
    refine r_putGI first r.t5 (lt5 sm.s5) ?_
    have r2 : RdAt C _ p ad { R with partners := putG R.partners line first } := r.put (o := .dK (kI V.int (putG R.partners line first))) 5 (by decide) rfl rfl ⟨r.ne.mo, r.ne.os, r.ne.wo⟩
    have f2 : Fro p ad H _ := f1.trans (Fro.put (o := .dK (kI V.int (putG R.partners line first))) (i := 5) (by decide))
    walk_at "rd"
    refine r_getI r2.t6 hxo ?_
    have hto := (r2.ne.os _ (look_mem hxo)).1
    walk_at "rd"
    intro t nt
    have r3 := r2.same (same_upd (o := .tup [V.int line]) nt)
    have f3 : Fro p ad H _ := f2.trans (Fro.of (same_upd (o := .tup [V.int line]) nt))
    refine x_catA (SqT.of (upd_new hto nt)) upd_same (fun z => by cases z) (by rw [List.length_map]; have := big5; simp only [List.length_cons, List.length_nil]; omega) fun q H5 s5 e5 => ?_
    rw [show xo.2.map V.int ++ [V.int line] = (xo.2 ++ [line]).map V.int from by rw [List.map_append]; rfl] at e5
    replace r3 := r3.same s5
    replace f3 := f3.trans (Fro.of s5)
    walk_at "rd"
    refine r_putGI (f := fun x : Addr × List Int => V.ref x.1) (q, xo.2 ++ [line]) r3.t6 (lt5 sm.s6) ?_
    have r4 : RdAt C _ p ad { R with partners := putG R.partners line first, ors := putG R.ors first (q, xo.2 ++ [line]) } := r3.put (o := .dK (kI (fun x : Addr × List Int => V.ref x.1) (putG R.ors first (q, xo.2 ++ [line])))) 6 (by decide) rfl rfl ⟨r3.ne.mo, fun x hx => by
      rcases mem_putG hx with e | hx
      · subst e
        exact ⟨e5, r3.not_tup e5⟩
      · exact r3.ne.os x hx, r3.ne.wo⟩
    walk_at "rd"
    have e3 : stOr R line q = { R with partners := putG R.partners line first, ors := putG R.ors first (q, xo.2 ++ [line]) } := by
      unfold stOr
      simp only [hf, hxo]
    exact k1 ke q _ (f3.trans (Fro.put (by decide))) (e3 ▸ r4)
def sp_read_leave (C : Addr) : Sp := fun vs H Q _ => ∃ (p : Addr) (ad : Nat → Addr) (R : RdM) (line : Int), vs = [.ref p, .int line] ∧ RdAt C H p ad R ∧ Sm R ∧ BlkT R ∧ RdPost C p ad H (okLeave R) (fun _ => stLeave R line) Q
theorem ok_read_leave {f : Addr} {fd : FuncData} (F : Fun K "read_leave" "read_leave" s_read_leave f fd) (T : ReadTxt K mg ts C) : FnOk P w K mg base CX0 1 f fd P_read_leave (sp_read_leave C) := by
  refine F.ok sc_read_leave (fun vs H Q E h => ?_) (fun cdv A outer s H vs Q E hr h => ?_)
  · obtain ⟨p, ad, R, line, rfl, _⟩ := h
    rfl
  · obtain ⟨p, ad, R, line, rfl, r, sm, bt, k0, k1⟩ := h
    have hu := hu_of hr
    have Tr := T.rd
    refine ⟨_, (pss_cons (ps_for PassesOwn.never rfl (pi_reversed (by rfl) T.b_reversed (pa_cons (pe_callTy call_list_of (by rfl) T.b_list (by decide +kernel) (pa_cons (pe_fld (pv 0) rfl) pa_nil)) pa_nil)) (pg_name (i := 2) sc_read_leave.nd rfl (Or.inl rfl))
      (pss_one (ps_if (pt_cmpR op_eq (pe_dget hu (pe_fld (pv 0) rfl) (pv 2) (fun _ _ => rfl)) pe_str (nomark _)) (pss_cons (ps_dput hu (pe_fld (pv 0) rfl) (pv 1) (pv 2) rfl)
        (pss_one (ps_ret pe_bl))) pss_nil)))
      (pss_one (ps_ret pe_bl))), ?_⟩
    show tSeq _ _ _ [some (V.ref p), some (V.int line), none] H
    walk_at "rd"
    refine x_irev ?_
    walk_at "rd"
    refine ⟨Or.inl (SqL.of r.t11), fun l nl => ?_⟩
    generalize eH : upd H l _ = H1
    have s1 : Same H H1 := eH ▸ same_upd nl
    have e1 : H1 l = some (.lst (R.blocks.map V.int)) := eH ▸ upd_same
    clear eH
    replace r := r.same s1
    have f1 : Fro p ad H H1 := Fro.of s1
    walk_at "rd"
    refine ⟨SqL.of e1, for_it walk_rev (fun i σ H' => Hold (∃ x, σ = [some (V.ref p), some (V.int line), x] ∧ H' = H1 ∧ ∀ j < i, ∀ x, R.blocks.reverse[j]? = some x → isEver R x = false)) ⟨none, rfl, rfl, fun j hj => absurd hj (Nat.not_lt_zero j)⟩ (fun i σ H' _ ⟨_, _, e, _⟩ => e ▸ SqL.of e1) ?_ ?_⟩
    · rintro i v σ H' H'' hi ⟨x, rfl, rfl, hn⟩ ⟨rfl, hv⟩
      rw [← List.getElem?_reverse hi, ← List.map_reverse, List.getElem?_map] at hv
      obtain ⟨b, hb, rfl⟩ := Option.map_eq_some_iff.mp hv
      obtain ⟨kd, hk, _⟩ := bt b (List.mem_reverse.mp (List.mem_of_getElem? hb))
      have hev : isEver R b = decide (kd = ("ever" : Str)) := by
        unfold isEver
        rw [hk]
        simp
      walk_at "rd"
      refine r_getI r.t3 hk ?_
      walk_at "rd"
      refine x_D (fun h2 => ?_) (fun h2 => ?_)
      · rw [decide_eq_true (V.str.inj h2)] at hev
        walk_at "rd"
        refine r_putGI b r.t8 (lt5 sm.s8) ?_
        walk_at "rd"
        have e3 : stLeave R line = { R with leaves := putG R.leaves line b } := by
          unfold stLeave
          rw [find_at hn hb hev]
        refine k1 ?_ 0 _ (f1.trans (Fro.put (by decide))) (e3 ▸ r.put (o := .dK (kI V.int (putG R.leaves line b))) 8 (by decide) rfl rfl ⟨r.ne.mo, r.ne.os, r.ne.wo⟩)
        exact List.any_eq_true.mpr ⟨b, List.mem_of_getElem? hb, hev⟩
      · rw [decide_eq_false fun z => h2 (by rw [z])] at hev
        walk_at "rd"
        refine ⟨_, rfl, rfl, fun j hj x hx => ?_⟩
        rcases Nat.lt_succ_iff_lt_or_eq.mp hj with hj | rfl
        · exact hn j hj x hx
        · rw [hb] at hx
          cases hx
          exact hev
    · rintro σ H' ⟨x, rfl, rfl, hn⟩
      walk_at "rd"
      refine k0 (any_none fun j hj x hx => hn j ?_ x hx) _ f1
      rw [List.length_reverse] at hj
      rw [List.length_map]
      exact hj
end
end MP
end
section
open PySem L2 MPX MP
local macro_rules | `(tactic| walk_at "rd1") => `(tactic| first
  | with_reducible refine x_seq ?_
  | with_reducible refine x_next ?_
  | with_reducible refine x_ret ?_
  | with_reducible refine x_retN ?_
  | with_reducible refine x_ifs ?_
  | with_reducible refine x_asg ?_
  | with_reducible refine x_drop ?_
  | with_reducible refine x_name ?_
  | ((with_reducible refine' x_var ?vv ?_); (case vv => exact rfl))
  | with_reducible refine x_c ?_
  | with_reducible refine x_op ?_
  | with_reducible refine x_un ?_
  | with_reducible refine x_test ?_
  | with_reducible refine x_tB ?_
  | with_reducible refine x_and ?_
  | with_reducible refine x_or ?_
  | with_reducible refine x_not ?_
  | with_reducible refine x_andV ?_
  | with_reducible refine x_orV ?_
  | with_reducible refine x_notV ?_
  | with_reducible refine x_if ?_
  | with_reducible refine x_nil ?_
  | with_reducible refine x_cons ?_
  | with_reducible refine x_tup ?_
  | with_reducible refine x_lst ?_
  | with_reducible refine x_cb ?_
  | with_reducible refine x_call ?_
  | with_reducible refine x_callS ?_
  | with_reducible refine x_callP ?_
  | with_reducible refine x_mk0 ?_
  | with_reducible refine x_mk1 ?_
  | with_reducible refine x_mk2 ?_
  | with_reducible refine x_make ?_
  | with_reducible refine x_sfld ?_
  | with_reducible refine x_din ?_
  | with_reducible refine x_dnin ?_
  | with_reducible refine x_fldS ?_
  | with_reducible refine x_sl3 ?_
  | ((with_reducible refine' r_rd ?vr ?vt ?vm ?vl ?vq); (case vr => (with_reducible assumption)); (case vt => assumption); (case vm => decide +kernel); (case vl => exact rfl))
  | with_reducible refine x_m0 ?_
  | with_reducible refine x_m1 ?_
  | with_reducible refine x_bm0 ?_
  | with_reducible refine x_bm ?_
  | with_reducible refine x_par ?_
  | with_reducible refine x_ilist ?_
  | with_reducible refine x_itup ?_
  | with_reducible refine x_istr ?_
  | ((with_reducible show tLc _ _ _ _ _ _ _ _); unfold tLc)
  | ((with_reducible show tFor _ _ _ _ _ _); unfold tFor)
  | ((with_reducible refine' x_eq ?vv ?_); (case vv => exact rfl))
  | ((with_reducible refine' x_ne ?vv ?_); (case vv => exact rfl))
  | with_reducible refine x_rI0 ?_
  | with_reducible refine x_dgetR ?_
  | with_reducible refine x_dputR ?_
  | with_reducible refine x_dnew ?_
  | with_reducible refine x_dget1 ?_
  | with_reducible refine x_dget2 ?_
  | with_reducible refine x_sl ?_
  | with_reducible refine x_nopart ?_
  | with_reducible refine x_part ?_
  | ((with_reducible refine' x_slL ?vv ?_); (case vv => (with_reducible assumption)))
  | with_reducible refine x_disp ?_
  | with_reducible refine x_pcons ?_
  | with_reducible refine x_pnil ?_
  | ((with_reducible refine' x_mod ?vv ?_); (case vv => omega); intro r er hr0 hr1; (try clear er))
  | ((with_reducible refine' x_rI ?vv ?_); (case vv => walk_at "sc"))
  | (with_reducible refine Or.inl (Exists.intro _ (And.intro rfl ?_)))
  | with_reducible refine x_T ?_
  | with_reducible refine x_F ?_
  | ((with_reducible show Exists (α := V) _); (with_reducible apply Exists.intro))
  | ((with_reducible show Exists (α := Bool) _); (with_reducible apply Exists.intro))
  | ((with_reducible show Exists (α := Nat) _); (with_reducible apply Exists.intro))
  | ((with_reducible show Exists (α := Int) _); (with_reducible apply Exists.intro))
  | ((with_reducible show Exists (α := List V) _); (with_reducible apply Exists.intro))
  | ((with_reducible show Exists (α := PySem.Str) _); (with_reducible apply Exists.intro))
  | ((with_reducible show Exists (α := Option V) _); (with_reducible apply Exists.intro))
  | ((with_reducible show Exists (α := Option Int) _); (with_reducible apply Exists.intro))
  | ((with_reducible show Exists (α := List (Key × V)) _); (with_reducible apply Exists.intro))
  | refine And.intro rfl ?_
  | ((with_reducible refine And.intro ?vv ?_); (case vv => (first | (with_reducible assumption) | (show _ ≤ sizeLine; decide) | exact len_ok rfl)))
  | (refine And.intro (Exists.intro _ rfl) ?_))
local macro_rules | `(tactic| walk_at "sc") => `(tactic| first
  | (with_reducible assumption)
  | exact divW (by omega) (by omega)
  | exact mulW (by omega) (by omega)
  | exact Or.inl ⟨by omega, by omega⟩
  | exact Or.inr ⟨by omega, by omega⟩
  | (show (_ : Int) ≠ 0; omega)
  | exact ⟨by decide, by decide, by decide⟩
  | decide)
local macro_rules | `(tactic| walk_at "rd") => `(tactic| repeat walk_at "rd1")
namespace MP
open PySem L2
section
variable {P : Program} {w : World} {K : PySem.W.Frag} {mg : Str → Option Value} {base : Heap} {ts : Nat → Tok} {kw C : Addr}
def sp_read_do (K : PySem.W.Frag) (C : Addr) : Sp := fun vs H Q _ => ∃ (p : Addr) (ad : Nat → Addr) (R : RdM) (a : Addr) (ws : List Str) (line : Int), vs = [.ref p, .ref a, .int line] ∧ RdAt C H p ad R ∧ Sm R ∧ WdAt K H p ad a ws ∧ RdPost C p ad H (okDo isName itemOf R ws) (fun q => stDo itemOf R line q ws) Q
theorem ok_read_do {f : Addr} {fd : FuncData} (F : Fun K "read_do" "read_do" s_read_do f fd) (T : ReadTxt K mg ts C) (c_is_name : Cal P w K mg base 2 "is_name" sp_is_name) (c_item_of : Cal P w K mg base 3 "item_of" sp_item_of) : FnOk P w K mg base CX0 4 f fd P_read_do (sp_read_do K C) := by
  refine F.ok sc_read_do (fun vs H Q E h => ?_) (fun cdv A outer s H vs Q E hr h => ?_)
  · obtain ⟨p, ad, R, a, ws, line, rfl, _⟩ := h
    rfl
  · obtain ⟨p, ad, R, a, ws, line, rfl, r, sm, x, k0, k1⟩ := h
    have hu := hu_of hr
    have hu0 : _ < cLine := Nat.lt_of_succ_lt hu
    have Tr := T.rd
    refine ⟨_, (pss_cons (ps_if (PW.pt (pw_or (pt_cmpR op_lt (pe_callB call_len_seq (by rfl) T.b_len (by decide +kernel) (pa_cons (pv 1) pa_nil)) pe_int (nomark _)) (pw_or (pt_cmpR op_gt (pe_callB call_len_seq (by rfl) T.b_len (by decide +kernel) (pa_cons (pv 1) pa_nil)) (pe_op op_add pe_int (pe_glob (v := V.int _) rfl T.g_MOST_ITEMS ⟨_, rfl⟩)) (nomark _)) (pw_or1 (pt_not (pt_val (pe_cc c_is_name hr (by decide) rfl (pa_cons (pe_ix ix_list (pv 1) pe_int (fun _ _ => rfl)) pa_nil)))))))) (pss_one (ps_ret pe_bl)) pss_nil)
      (pss_cons (ps_set (i := 3) sc_read_do.nd rfl (Or.inl rfl) pe_dnewK)
      (pss_cons (ps_for PassesOwn.never rfl (pi_list (pe_slice sl_list (pv 1) (po_some pe_int) po_none)) (pg_name (i := 4) sc_read_do.nd rfl (Or.inl rfl))
      (pss_cons (ps_set (i := 5) sc_read_do.nd rfl (Or.inl rfl) (pe_cc c_item_of hr (by decide) rfl (pa_cons (pv 4) pa_nil)))
      (pss_cons (ps_if (PW.pt (pw_or (pt_cmpR op_isN (pv 5) pe_non (nomark _)) (pw_or (pt_cmp (pc_dnotin hu (pe_ix ix_tup (pv 5) pe_int (fun _ _ => rfl)) (pe_fld (pv 0) rfl))) (pw_or1 (pt_cmp (pc_din hu (pe_ix ix_tup (pv 5) pe_int (fun _ _ => rfl)) (pv 3))))))) (pss_one (ps_ret pe_bl)) pss_nil)
      (pss_cons (ps_if (PW.pt (pw_and (pt_cmpR op_ne (pe_ix ix_tup (pv 5) pe_int (fun _ _ => rfl)) pe_str (nomark _)) (pw_and1 (pt_cmp (pc_dnotin hu (pe_ix ix_tup (pv 5) pe_int (fun _ _ => rfl)) (pe_dget hu (pe_fld (pv 0) rfl) (pe_ix ix_tup (pv 5) pe_int (fun _ _ => rfl)) (fun _ _ => rfl))))))) (pss_one (ps_ret pe_bl)) pss_nil)
      (pss_one (ps_dput hu (pv 3) (pe_ix ix_tup (pv 5) pe_int (fun _ _ => rfl)) (pe_ix ix_tup (pv 5) pe_int (fun _ _ => rfl)) rfl))))))
      (pss_cons (ps_dput hu (pe_fld (pv 0) rfl) (pv 2) (pv 3) rfl)
      (pss_one (ps_ret pe_bl)))))), ?_⟩
    show tSeq _ _ _ [some (V.ref p), some (V.ref a), some (V.int line), none, none, none] H
    walk_at "rd"
    refine ⟨Or.inl (SqL.of x.at_), ?_⟩
    walk_at "rd"
    refine x_D (fun h1 => ?_) (fun h1 => ?_)
    · walk_at "rd"
      refine k0 ?_ _ Fro.refl
      rw [List.length_map] at h1
      match ws, h1 with
      | [], _ => rfl
      | [_], _ => rfl
      | _ :: _ :: r, h => exact absurd h (by simp only [List.length_cons]; omega)
    obtain ⟨w0, n, r0, rfl⟩ : ∃ a b r, ws = a :: b :: r := by
      rw [List.length_map] at h1
      match ws, h1 with
      | [], h => exact absurd (by show (0 : Int) < 2; decide) h
      | [_], h => exact absurd (by show (1 : Int) < 2; decide) h
      | a :: b :: r, _ => exact ⟨a, b, r, rfl⟩
    have ke : okDo isName itemOf R (w0 :: n :: r0) = (decide (r0.length ≤ 6) && isName n && (doItems itemOf R r0 []).isSome) := rfl
    have hln := x.el n (by simp)
    walk_at "rd"
    refine ⟨Or.inl (SqL.of x.at_), ?_⟩
    walk_at "rd"
    refine x_D (fun h2 => ?_) (fun h2 => ?_)
    · walk_at "rd"
      refine k0 ?_ _ Fro.refl
      rw [List.length_map] at h2
      simp only [List.length_cons] at h2
      rw [ke, decide_eq_false (show ¬ r0.length ≤ 6 by omega)]
      rfl
    have h6 : r0.length ≤ 6 := by
      rw [List.length_map] at h2
      simp only [List.length_cons] at h2
      omega
    walk_at "rd"
    refine x_ixL (SqL.of x.at_) (atI_nat (j := 1) rfl) ?_
    walk_at "rd"
    refine ⟨n, rfl, hln, ?_⟩
    walk_at "rd"
    refine x_NB (fun h3 => ?_) (fun h3 => ?_)
    · walk_at "rd"
      refine k0 ?_ _ Fro.refl
      rw [ke, h3]
      simp
    rw [decide_eq_true h6, h3] at ke
    walk_at "rd"
    intro d nd
    generalize eH : upd H d _ = H1
    have s1 : Same H H1 := eH ▸ same_upd nd
    have d1 : H1 d = some (.dK (kS V.str [])) := eH ▸ upd_same
    have hd : ∀ i < 12, d ≠ ad i := r.fresh nd
    clear eH
    have sqa : SqL K H1 a ((w0 :: n :: r0).map V.str) := SqL.of (s1 _ _ x.at_)
    walk_at "rd"
    refine x_slL sqa fun l nl => ?_
    generalize eH : upd H1 l _ = H2
    have s2 : Same H1 H2 := eH ▸ same_upd nl
    have l2 : H2 l = some (.lst (r0.map V.str)) := by
      rw [← eH, upd_same]
      exact congrArg (fun z => some (HO.lst z)) (cutV_from _ 2)
    have hld : l ≠ d := Ne.symm (ne_of_none d1 nl)
    have d2 := s2 _ _ d1
    have s12 := s1.trans s2
    clear eH sqa
    walk_at "rd"
    refine ⟨⟨_, SqL.of l2⟩, for_it (walk_list (xs := r0.map V.str)) (fun i σ H' => Hold (∃ (acc : List (Str × Str)) (x4 x5 : Option V), σ = [some (V.ref p), some (V.ref a), some (V.int line), some (V.ref d), x4, x5] ∧ H' d = some (.dK (kS V.str acc)) ∧ acc.length ≤ i ∧ doItems itemOf R r0 [] = doItems itemOf R (r0.drop i) acc ∧ ∀ b o, H2 b = some o → b ≠ d → H' b = some o))
      ⟨[], none, none, rfl, d2, Nat.le_refl _, rfl, fun _ _ e _ => e⟩ (fun i σ H' _ ⟨_, _, _, _, _, _, _, hfr⟩ => SqL.of (hfr _ _ l2 hld)) ?_ ?_⟩
    · rintro i v σ H' H'' hi ⟨acc, x4, x5, rfl, hda, hal, hdo, hfr⟩ ⟨rfl, hv⟩
      rw [List.getElem?_map] at hv
      obtain ⟨wd, hwd, rfl⟩ := Option.map_eq_some_iff.mp hv
      rw [drop_at hwd] at hdo
      have hwl := x.el wd (List.mem_cons_of_mem _ (List.mem_cons_of_mem _ (List.mem_of_getElem? hwd)))
      have sH : Same H H'' := fun b o e => hfr _ _ (s12 _ _ e) (ne_of_none e nd)
      have hil : i < r0.length := by rw [List.length_map] at hi; exact hi
      walk_at "rd"
      refine ⟨wd, rfl, hwl, fun e H3 s3 => ?_, fun m v q H3 e s3 eq => ?_⟩
      · walk_at "rd"
        refine x_D (fun _ => ?_) (fun h => absurd rfl h)
        walk_at "rd"
        refine k0 ?_ _ (Fro.of (sH.trans s3))
        rw [ke, hdo]
        unfold doItems
        rw [e]
        rfl
      have r3 := r.same (sH.trans s3)
      have f3 : Fro p ad H H3 := Fro.of (sH.trans s3)
      have hd3 := s3 _ _ hda
      walk_at "rd"
      refine x_D (fun h => by cases h) (fun _ => ?_)
      walk_at "rd"
      refine x_ixT (SqT.of eq) (atI_nat (j := 0) rfl) ?_
      walk_at "rd"
      refine r_dninS r3.t0 ?_
      walk_at "rd"
      refine x_NB (fun h4 => ?_) (fun h4 => ?_)
      · walk_at "rd"
        refine k0 ?_ _ f3
        rw [ke, hdo]
        have hmn : look R.modes m = none := by simpa using h4
        unfold doItems
        simp only [e, hmn]
        rfl
      obtain ⟨dm, hdm⟩ := Option.isSome_iff_exists.mp h4
      walk_at "rd"
      refine x_ixT (SqT.of eq) (atI_nat (j := 0) rfl) ?_
      walk_at "rd"
      refine r_dinS hd3 ?_
      walk_at "rd"
      refine x_B (fun h5 => ?_) (fun h5 => ?_)
      · walk_at "rd"
        refine k0 ?_ _ f3
        rw [ke, hdo]
        unfold doItems
        simp only [e, hdm, h5, if_true]
        rfl
      walk_at "rd"
      refine x_ixT (SqT.of eq) (atI_nat (j := 1) rfl) ?_
      walk_at "rd"
      refine x_ND (fun h6 => ?_) (fun h6 => ?_)
      · have hv : decide (v = ("?" : Str)) = false := decide_eq_false fun z => h6 (by rw [z])
        walk_at "rd"
        refine x_ixT (SqT.of eq) (atI_nat (j := 1) rfl) ?_
        walk_at "rd"
        refine x_ixT (SqT.of eq) (atI_nat (j := 0) rfl) ?_
        walk_at "rd"
        refine r_getS r3.t0 hdm ?_
        walk_at "rd"
        refine r_dninS (r3.ne.mo _ (look_mem hdm)).1 ?_
        walk_at "rd"
        refine x_NB (fun h7 => ?_) (fun h7 => ?_)
        · walk_at "rd"
          refine k0 ?_ _ f3
          rw [ke, hdo]
          unfold doItems
          simp only [e, hdm, h5, hv, h7]
          rfl
        · walk_at "rd"
          refine x_ixT (SqT.of eq) (atI_nat (j := 1) rfl) ?_
          walk_at "rd"
          refine x_ixT (SqT.of eq) (atI_nat (j := 0) rfl) ?_
          walk_at "rd"
          refine r_putGS v hd3 (by omega) ?_
          walk_at "rd"
          refine ⟨putG acc m v, _, _, rfl, upd_same, Nat.le_trans (putG_len ..) (by omega), ?_, fun b o e n => by rw [upd_ne n]; exact s3 _ _ (hfr _ _ e n)⟩
          rw [hdo]
          conv => lhs; unfold doItems
          simp only [e, hdm, h5, hv, h7]
          rfl
      · have hv : decide (v = ("?" : Str)) = true := decide_eq_true (V.str.inj h6)
        walk_at "rd"
        refine x_ixT (SqT.of eq) (atI_nat (j := 1) rfl) ?_
        walk_at "rd"
        refine x_ixT (SqT.of eq) (atI_nat (j := 0) rfl) ?_
        walk_at "rd"
        refine r_putGS v hd3 (by omega) ?_
        walk_at "rd"
        refine ⟨putG acc m v, _, _, rfl, upd_same, Nat.le_trans (putG_len ..) (by omega), ?_, fun b o e n => by rw [upd_ne n]; exact s3 _ _ (hfr _ _ e n)⟩
        rw [hdo]
        conv => lhs; unfold doItems
        simp only [e, hdm, h5, hv]
        rfl
    · rintro σ H' ⟨acc, x4, x5, rfl, hda, hal, hdo, hfr⟩
      have sH : Same H H' := fun b o e => hfr _ _ (s12 _ _ e) (ne_of_none e nd)
      have r3 := r.same sH
      rw [List.length_map, List.drop_of_length_le (Nat.le_refl _)] at hdo
      rw [show doItems itemOf R [] acc = some acc from rfl] at hdo
      walk_at "rd"
      refine r_putGI (f := fun x : Addr × List (Str × Str) => V.ref x.1) (d, acc) r3.t9 (lt5 sm.s9) ?_
      have r4 : RdAt C _ p ad { R with works := putG R.works line (d, acc) } := r3.put (o := .dK (kI (fun x : Addr × List (Str × Str) => V.ref x.1) (putG R.works line (d, acc)))) 9 (by decide) rfl rfl ⟨r3.ne.mo, r3.ne.os, fun x hx => by
        rcases mem_putG hx with e | hx
        · subst e
          exact ⟨hda, hd⟩
        · exact r3.ne.wo x hx⟩
      walk_at "rd"
      have e3 : stDo itemOf R line d (w0 :: n :: r0) = { R with works := putG R.works line (d, acc) } := by
        unfold stDo
        simp only [hdo]
      refine k1 ?_ d _ ((Fro.of sH).trans (Fro.put (by decide))) (by show RdAt C _ p ad (stDo itemOf R line d (w0 :: n :: r0)); rw [e3]; exact r4)
      rw [ke, hdo]
      rfl
end
end MP
end
section
open PySem L2 MPX MP
local macro_rules | `(tactic| walk_at "rd1") => `(tactic| first
  | with_reducible refine x_seq ?_
  | with_reducible refine x_next ?_
  | with_reducible refine x_ret ?_
  | with_reducible refine x_retN ?_
  | with_reducible refine x_ifs ?_
  | with_reducible refine x_asg ?_
  | with_reducible refine x_drop ?_
  | with_reducible refine x_name ?_
  | ((with_reducible refine' x_var ?vv ?_); (case vv => exact rfl))
  | with_reducible refine x_c ?_
  | with_reducible refine x_op ?_
  | with_reducible refine x_un ?_
  | with_reducible refine x_test ?_
  | with_reducible refine x_tB ?_
  | with_reducible refine x_and ?_
  | with_reducible refine x_or ?_
  | with_reducible refine x_not ?_
  | with_reducible refine x_andV ?_
  | with_reducible refine x_orV ?_
  | with_reducible refine x_notV ?_
  | with_reducible refine x_if ?_
  | with_reducible refine x_nil ?_
  | with_reducible refine x_cons ?_
  | with_reducible refine x_tup ?_
  | with_reducible refine x_lst ?_
  | with_reducible refine x_cb ?_
  | with_reducible refine x_call ?_
  | with_reducible refine x_callS ?_
  | with_reducible refine x_callP ?_
  | with_reducible refine x_mk0 ?_
  | with_reducible refine x_mk1 ?_
  | with_reducible refine x_mk2 ?_
  | with_reducible refine x_make ?_
  | with_reducible refine x_sfld ?_
  | with_reducible refine x_din ?_
  | with_reducible refine x_dnin ?_
  | with_reducible refine x_fldS ?_
  | with_reducible refine x_sl3 ?_
  | ((with_reducible refine' r_rd ?vr ?vt ?vm ?vl ?vq); (case vr => (with_reducible assumption)); (case vt => assumption); (case vm => decide +kernel); (case vl => exact rfl))
  | with_reducible refine x_m0 ?_
  | with_reducible refine x_m1 ?_
  | with_reducible refine x_bm0 ?_
  | with_reducible refine x_bm ?_
  | with_reducible refine x_par ?_
  | with_reducible refine x_ilist ?_
  | with_reducible refine x_itup ?_
  | with_reducible refine x_istr ?_
  | ((with_reducible show tLc _ _ _ _ _ _ _ _); unfold tLc)
  | ((with_reducible show tFor _ _ _ _ _ _); unfold tFor)
  | ((with_reducible refine' x_eq ?vv ?_); (case vv => exact rfl))
  | ((with_reducible refine' x_ne ?vv ?_); (case vv => exact rfl))
  | with_reducible refine x_rI0 ?_
  | with_reducible refine x_dgetR ?_
  | with_reducible refine x_dputR ?_
  | with_reducible refine x_dnew ?_
  | with_reducible refine x_dget1 ?_
  | with_reducible refine x_dget2 ?_
  | with_reducible refine x_sl ?_
  | with_reducible refine x_nopart ?_
  | with_reducible refine x_part ?_
  | ((with_reducible refine' x_slL ?vv ?_); (case vv => (with_reducible assumption)))
  | with_reducible refine x_disp ?_
  | with_reducible refine x_pcons ?_
  | with_reducible refine x_pnil ?_
  | ((with_reducible refine' x_mod ?vv ?_); (case vv => omega); intro r er hr0 hr1; (try clear er))
  | ((with_reducible refine' x_rI ?vv ?_); (case vv => walk_at "sc"))
  | (with_reducible refine Or.inl (Exists.intro _ (And.intro rfl ?_)))
  | with_reducible refine x_T ?_
  | with_reducible refine x_F ?_
  | ((with_reducible show Exists (α := V) _); (with_reducible apply Exists.intro))
  | ((with_reducible show Exists (α := Bool) _); (with_reducible apply Exists.intro))
  | ((with_reducible show Exists (α := Nat) _); (with_reducible apply Exists.intro))
  | ((with_reducible show Exists (α := Int) _); (with_reducible apply Exists.intro))
  | ((with_reducible show Exists (α := List V) _); (with_reducible apply Exists.intro))
  | ((with_reducible show Exists (α := PySem.Str) _); (with_reducible apply Exists.intro))
  | ((with_reducible show Exists (α := Option V) _); (with_reducible apply Exists.intro))
  | ((with_reducible show Exists (α := Option Int) _); (with_reducible apply Exists.intro))
  | ((with_reducible show Exists (α := List (Key × V)) _); (with_reducible apply Exists.intro))
  | refine And.intro rfl ?_
  | ((with_reducible refine And.intro ?vv ?_); (case vv => (first | (with_reducible assumption) | (show _ ≤ sizeLine; decide) | exact len_ok rfl)))
  | (refine And.intro (Exists.intro _ rfl) ?_))
local macro_rules | `(tactic| walk_at "sc") => `(tactic| first
  | (with_reducible assumption)
  | exact divW (by omega) (by omega)
  | exact mulW (by omega) (by omega)
  | exact Or.inl ⟨by omega, by omega⟩
  | exact Or.inr ⟨by omega, by omega⟩
  | (show (_ : Int) ≠ 0; omega)
  | exact ⟨by decide, by decide, by decide⟩
  | decide)
local macro_rules | `(tactic| walk_at "rd") => `(tactic| repeat walk_at "rd1")
namespace MP
open PySem L2
section
variable {P : Program} {w : World} {K : PySem.W.Frag} {mg : Str → Option Value} {base : Heap} {ts : Nat → Tok} {kw C : Addr}
theorem price_ok {z : Str} (h : isPrice z = true) : PySem.intText? z = some (priceOf z) ∧ z.length ≤ 31 := by
  unfold isPrice at h
  have h1 := (Bool.and_eq_true_iff.mp h).1
  rw [Bool.not_eq_true', Bool.or_eq_false_iff, Bool.or_eq_false_iff, Bool.or_eq_false_iff] at h1
  obtain ⟨⟨⟨a, b⟩, c⟩, _⟩ := h1
  have h31 : z.length ≤ 31 := by have := of_decide_eq_false b; omega
  exact ⟨price_text (of_decide_eq_false a) h31 (by simpa using c), h31⟩
def sp_read_mode (K : PySem.W.Frag) (C : Addr) : Sp := fun vs H Q _ => ∃ (p : Addr) (ad : Nat → Addr) (R : RdM) (a : Addr) (ws : List Str), vs = [.ref p, .ref a] ∧ RdAt C H p ad R ∧ Sm R ∧ WdAt K H p ad a ws ∧ RdPost C p ad H (okMode isName isPrice priceOf R ws) (fun q => stMode isName isPrice priceOf R q ws) Q
theorem ok_read_mode {f : Addr} {fd : FuncData} (F : Fun K "read_mode" "read_mode" s_read_mode f fd) (T : ReadTxt K mg ts C) (c_is_name : Cal P w K mg base 2 "is_name" sp_is_name) (c_is_price : Cal P w K mg base 2 "is_price" sp_is_price) : FnOk P w K mg base CX0 3 f fd P_read_mode (sp_read_mode K C) := by
  refine F.ok sc_read_mode (fun vs H Q E h => ?_) (fun cdv A outer s H vs Q E hr h => ?_)
  · obtain ⟨p, ad, R, a, ws, rfl, _⟩ := h
    rfl
  · obtain ⟨p, ad, R, a, ws, rfl, r, sm, x, k0, k1⟩ := h
    have hu := hu_of hr
    have hu0 : _ < cLine := Nat.lt_of_succ_lt hu
    have Tr := T.rd
    refine ⟨_, (pss_cons (ps_set (i := 2) sc_read_mode.nd rfl (Or.inl rfl) (pe_op op_sub (pe_callB call_len_seq (by rfl) T.b_len (by decide +kernel) (pa_cons (pv 1) pa_nil)) pe_int))
      (pss_cons (ps_if (PW.pt (pw_or (pt_cmpR op_lt (pv 2) pe_int (nomark _)) (pw_or (pt_cmpR op_ne (pe_op op_mulW (pe_op op_fdivW (pv 2) pe_int) pe_int) (pv 2) (nomark _)) (pw_or (pt_cmpR op_gt (pv 2) (pe_op op_mulW pe_int (pe_glob (v := V.int _) rfl T.g_MOST_VALUES ⟨_, rfl⟩)) (nomark _)) (pw_or1 (pt_cmpR (op_neD0 hu0) (pe_fld (pv 0) rfl) pe_dnewK (nomark _))))))) (pss_one (ps_ret pe_bl)) pss_nil)
      (pss_cons (ps_if (PW.pt (pw_or (pt_not (pt_val (pe_cc c_is_name hr (by decide) rfl (pa_cons (pe_ix ix_list (pv 1) pe_int (fun _ _ => rfl)) pa_nil)))) (pw_or (pt_cmp (pc_din hu (pe_ix ix_list (pv 1) pe_int (fun _ _ => rfl)) (pe_fld (pv 0) rfl))) (pw_or1 (pt_cmpR op_eq (pe_callB call_lenD (by rfl) T.b_len (by decide +kernel) (pa_cons (pe_fld (pv 0) rfl) pa_nil)) (pe_glob (v := V.int _) rfl T.g_MOST_MODES ⟨_, rfl⟩) (nomark _)))))) (pss_one (ps_ret pe_bl)) pss_nil)
      (pss_cons (ps_set (i := 3) sc_read_mode.nd rfl (Or.inl rfl) pe_dnewK)
      (pss_cons (ps_for PassesOwn.never rfl (pi_zip (by rfl) T.b_zip (pa_cons (pe_slice3 (pv 1) (po_some pe_int) po_none (po_some pe_int)) (pa_cons (pe_slice3 (pv 1) (po_some pe_int) po_none (po_some pe_int)) pa_nil))) (pg_tup rfl (pgs_cons (pg_name (i := 4) sc_read_mode.nd rfl (Or.inl rfl)) (pgs_cons (pg_name (i := 5) sc_read_mode.nd rfl (Or.inl rfl)) pgs_nil)))
      (pss_cons (ps_if (PW.pt (pw_or (pt_not (pt_val (pe_cc c_is_name hr (by decide) rfl (pa_cons (pv 4) pa_nil)))) (pw_or (pt_cmp (pc_din hu (pv 4) (pv 3))) (pw_or1 (pt_not (pt_val (pe_cc c_is_price hr (by decide) rfl (pa_cons (pv 5) pa_nil)))))))) (pss_one (ps_ret pe_bl)) pss_nil)
      (pss_one (ps_dput hu (pv 3) (pv 4) (pe_callTy call_int_str (by rfl) T.b_int (by decide +kernel) (pa_cons (pv 5) pa_nil)) rfl))))
      (pss_cons (ps_dput hu (pe_fld (pv 0) rfl) (pe_ix ix_list (pv 1) pe_int (fun _ _ => rfl)) (pv 3) rfl)
      (pss_one (ps_ret pe_bl)))))))), ?_⟩
    show tSeq _ _ _ [some (V.ref p), some (V.ref a), none, none, none, none] H
    walk_at "rd"
    refine ⟨Or.inl (SqL.of x.at_), ?_⟩
    walk_at "rd"
    rw [List.length_map]
    refine x_D (fun h1 => ?_) (fun h1 => ?_)
    · walk_at "rd"
      refine k0 ?_ _ Fro.refl
      match ws, h1 with
      | [], _ => rfl
      | [_], _ => rfl
      | _ :: n :: r0, h =>
        show (decide (2 ≤ r0.length) && _ && _ && _ && _ && _ && _ && _) = false
        simp only [List.length_cons] at h
        rw [decide_eq_false (by omega)]
        rfl
    obtain ⟨w0, n, r0, rfl⟩ : ∃ a b r, ws = a :: b :: r := by
      match ws, h1 with
      | [], h => exact absurd (by show ((0 : Nat) : Int) - 2 < 2; decide) h
      | [_], h => exact absurd (by show ((1 : Nat) : Int) - 2 < 2; decide) h
      | a :: b :: r, _ => exact ⟨a, b, r, rfl⟩
    have ke : okMode isName isPrice priceOf R (w0 :: n :: r0) = (decide (2 ≤ r0.length) && decide (r0.length % 2 = 0) && decide (r0.length ≤ 12) && R.routines.isEmpty && isName n && !(look R.modes n).isSome && !decide (R.modes.length = 6) && (modeItems isName isPrice priceOf r0 []).isSome) := rfl
    have hm : (((w0 :: n :: r0).length : Nat) : Int) - 2 = (r0.length : Int) := by simp only [List.length_cons]; omega
    rw [hm] at h1 ⊢
    rw [decide_eq_true (show 2 ≤ r0.length by omega)] at ke
    have hln := x.el n (by simp)
    walk_at "rd"
    have hlen : r0.length < 10000 := by have := x.len; simp only [List.length_cons] at this; omega
    refine x_rI (mulW (by omega) (by decide)) ?_
    walk_at "rd"
    refine x_ND (fun h2 => ?_) (fun h2 => ?_)
    · walk_at "rd"
      refine k0 ?_ _ Fro.refl
      rw [ke, decide_eq_false (show ¬ r0.length % 2 = 0 from fun z => h2 (congrArg V.int (by omega)))]
      simp
    have h2' : r0.length % 2 = 0 := by have := V.int.inj h2; omega
    rw [decide_eq_true h2'] at ke
    walk_at "rd"
    refine x_D (fun h3 => ?_) (fun h3 => ?_)
    · walk_at "rd"
      refine k0 ?_ _ Fro.refl
      rw [ke, decide_eq_false (show ¬ r0.length ≤ 12 by omega)]
      simp
    have h3' : r0.length ≤ 12 := by omega
    rw [decide_eq_true h3'] at ke
    walk_at "rd"
    intro e ne
    generalize eH : upd H e _ = H1
    have s1 : Same H H1 := eH ▸ same_upd ne
    have e1 : H1 e = some (.dK []) := eH ▸ upd_same
    clear eH
    replace r := r.same s1
    replace x := x.same s1
    have f1 : Fro p ad H H1 := Fro.of s1
    refine x_neD0 r.t2 e1 ?_
    rw [kS_nil]
    walk_at "rd"
    refine x_NB (fun h4 => ?_) (fun h4 => ?_)
    · walk_at "rd"
      refine k0 ?_ _ f1
      rw [ke, h4]
      simp
    rw [h4] at ke
    walk_at "rd"
    refine x_ixL (SqL.of x.at_) (atI_nat (j := 1) rfl) ?_
    walk_at "rd"
    refine ⟨n, rfl, hln, ?_⟩
    walk_at "rd"
    refine x_NB (fun h5 => ?_) (fun h5 => ?_)
    · walk_at "rd"
      refine k0 ?_ _ f1
      rw [ke, h5]
      simp
    rw [h5] at ke
    walk_at "rd"
    refine x_ixL (SqL.of x.at_) (atI_nat (j := 1) rfl) ?_
    walk_at "rd"
    refine r_dinS r.t0 ?_
    walk_at "rd"
    refine x_B (fun h6 => ?_) (fun h6 => ?_)
    · walk_at "rd"
      refine k0 ?_ _ f1
      rw [ke, h6]
      simp
    rw [h6] at ke
    have t0 := r.t0
    walk_at "rd"
    rw [kS_len]
    refine x_D (fun h7 => ?_) (fun h7 => ?_)
    · walk_at "rd"
      refine k0 ?_ _ f1
      rw [ke, decide_eq_true (show R.modes.length = 6 by have := V.int.inj h7; omega)]
      simp
    rw [decide_eq_false (show ¬ R.modes.length = 6 from fun z => h7 (by rw [z]; rfl))] at ke
    replace ke : okMode isName isPrice priceOf R (w0 :: n :: r0) = (modeItems isName isPrice priceOf r0 []).isSome := by rw [ke]; simp
    clear h1 h2 h3 h7 hm
    walk_at "rd"
    intro d nd
    generalize eH : upd H1 d _ = H2
    have s2 : Same H1 H2 := eH ▸ same_upd nd
    have d2 : H2 d = some (.dK (kS V.int [])) := eH ▸ upd_same
    have hd : ∀ i < 12, d ≠ ad i := r.fresh nd
    clear eH
    have sqa : SqL K H2 a ((w0 :: n :: r0).map V.str) := SqL.of (s2 _ _ x.at_)
    walk_at "rd"
    obtain ⟨pk1, pk2, pl1, pl2⟩ := pick_ev (V.str w0) (V.str n) (r0.map V.str) (by rw [List.length_map]; exact h3') (by rw [List.length_map]; exact h2')
    rw [List.length_map] at pl1 pl2
    have hhalf : r0.length / 2 ≤ 6 := by omega
    have hbig := big5
    refine x_izip ?_
    walk_at "rd"
    refine r_sl3 sqa (by decide) pk1 (by omega) fun H3 l1 s3 n1 a1 => ?_
    walk_at "rd"
    refine r_sl3 (s3.seq sqa) (by decide) pk2 (by omega) fun H4 l2 s4 n2 a2 => ?_
    have s14 := (s2.trans s3).trans s4
    have d4 : H4 d = _ := s4 _ _ (s3 _ _ d2)
    have nd1 : l1 ≠ d := Ne.symm (ne_of_none d2 n1)
    have nd2 : l2 ≠ d := Ne.symm (ne_of_none (s3 _ _ d2) n2)
    replace a1 := s4 _ _ a1
    walk_at "rd"
    refine ⟨SqL.of a1, SqL.of a2, for_it (walk_zip (n := r0.length / 2) (xs := ev (r0.map V.str)) (ys := ev (r0.map V.str).tail) (by rw [pl1, pl2, Nat.min_self]))
      (fun i σ H' => Hold (∃ (acc : List (Str × Int)) (x4 x5 : Option V), σ = [some (V.ref p), some (V.ref a), some (V.int r0.length), some (V.ref d), x4, x5] ∧ H' d = some (.dK (kS V.int acc)) ∧ acc.length ≤ i ∧ modeItems isName isPrice priceOf r0 [] = modeItems isName isPrice priceOf (r0.drop (2 * i)) acc ∧ ∀ b o, H4 b = some o → b ≠ d → H' b = some o))
      ⟨[], none, none, rfl, d4, Nat.le_refl _, rfl, fun _ _ e _ => e⟩ (fun i σ H' _ ⟨_, _, _, _, _, _, _, hfr⟩ => ⟨SqL.of (hfr _ _ a1 nd1), SqL.of (hfr _ _ a2 nd2)⟩) ?_ ?_⟩
    · rintro i v σ H' H'' hi ⟨acc, x4, x5, rfl, hda, hal, hmo, hfr⟩ ⟨T1, vx, vy, rfl, nT, rfl, hx, hy⟩
      replace hx : (ev (r0.map V.str))[i]? = some vx := hx
      replace hy : (ev (r0.map V.str).tail)[i]? = some vy := hy
      rw [ev_at, List.getElem?_map] at hx
      rw [ev_at, List.getElem?_tail, List.getElem?_map] at hy
      obtain ⟨nv, hnv, rfl⟩ := Option.map_eq_some_iff.mp hx
      obtain ⟨pr, hpr, rfl⟩ := Option.map_eq_some_iff.mp hy
      rw [drop_at hnv, drop_at hpr] at hmo
      have hlv := x.el nv (List.mem_cons_of_mem _ (List.mem_cons_of_mem _ (List.mem_of_getElem? hnv)))
      have hlp := x.el pr (List.mem_cons_of_mem _ (List.mem_cons_of_mem _ (List.mem_of_getElem? hpr)))
      have sH : Same H1 (upd H' T1 (.tup [V.str nv, V.str pr])) := fun b o e => upd_new (hfr _ _ (s14 _ _ e) (ne_of_none e nd)) nT
      have fH : Fro p ad H _ := f1.trans (Fro.of sH)
      have hd3 : upd H' T1 (.tup [V.str nv, V.str pr]) d = _ := upd_new hda nT
      refine x_gtup2 upd_same ?_
      walk_at "rd"
      refine ⟨nv, rfl, hlv, ?_⟩
      walk_at "rd"
      refine x_NB (fun h8 => ?_) (fun h8 => ?_)
      · walk_at "rd"
        refine k0 ?_ _ fH
        rw [ke, hmo]
        unfold modeItems
        rw [h8]
        rfl
      walk_at "rd"
      refine r_dinS hd3 ?_
      walk_at "rd"
      refine x_B (fun h9 => ?_) (fun h9 => ?_)
      · walk_at "rd"
        refine k0 ?_ _ fH
        rw [ke, hmo]
        unfold modeItems
        rw [h8, h9]
        rfl
      walk_at "rd"
      refine ⟨pr, rfl, hlp, ?_⟩
      walk_at "rd"
      refine x_NB (fun h10 => ?_) (fun h10 => ?_)
      · walk_at "rd"
        refine k0 ?_ _ fH
        rw [ke, hmo]
        unfold modeItems
        rw [h8, h9, h10]
        rfl
      walk_at "rd"
      refine ⟨(price_ok h10).1, by have := (price_ok h10).2; omega, ?_⟩
      walk_at "rd"
      refine r_putGS (priceOf pr) hd3 (by omega) ?_
      walk_at "rd"
      refine ⟨putG acc nv (priceOf pr), _, _, rfl, upd_same, Nat.le_trans (putG_len ..) (by omega), ?_, fun b o e n => by rw [upd_ne n]; exact upd_new (hfr _ _ e n) nT⟩
      rw [hmo]
      conv => lhs; unfold modeItems
      rw [h8, h9, h10]
      rfl
    · rintro σ H' ⟨acc, x4, x5, rfl, hda, hal, hmo, hfr⟩
      have sH : Same H1 H' := fun b o e => hfr _ _ (s14 _ _ e) (ne_of_none e nd)
      have r3 := r.same sH
      have x3 := x.same sH
      rw [List.drop_of_length_le (by omega)] at hmo
      rw [show modeItems isName isPrice priceOf [] acc = some acc from rfl] at hmo
      walk_at "rd"
      refine x_ixL (SqL.of x3.at_) (atI_nat (j := 1) rfl) ?_
      walk_at "rd"
      refine r_putGS (f := fun x : Addr × List (Str × Int) => V.ref x.1) (d, acc) r3.t0 (lt5 sm.s0) ?_
      have r4 : RdAt C _ p ad { R with modes := putG R.modes n (d, acc) } := r3.put (o := .dK (kS (fun x : Addr × List (Str × Int) => V.ref x.1) (putG R.modes n (d, acc)))) 0 (by decide) rfl rfl ⟨fun x hx => by
        rcases mem_putG hx with e | hx
        · subst e
          exact ⟨hda, hd⟩
        · exact r3.ne.mo x hx, r3.ne.os, r3.ne.wo⟩
      walk_at "rd"
      have e3 : stMode isName isPrice priceOf R d (w0 :: n :: r0) = { R with modes := putG R.modes n (d, acc) } := by
        unfold stMode
        simp only [hmo]
      refine k1 ?_ d _ ((f1.trans (Fro.of sH)).trans (Fro.put (by decide))) (by show RdAt C _ p ad (stMode isName isPrice priceOf R d (w0 :: n :: r0)); rw [e3]; exact r4)
      rw [ke, hmo]
      rfl
end
end MP
end
section
open PySem L2 MPX MP
local macro_rules | `(tactic| walk_at "rd1") => `(tactic| first
  | with_reducible refine x_seq ?_
  | with_reducible refine x_next ?_
  | with_reducible refine x_ret ?_
  | with_reducible refine x_retN ?_
  | with_reducible refine x_ifs ?_
  | with_reducible refine x_asg ?_
  | with_reducible refine x_drop ?_
  | with_reducible refine x_name ?_
  | ((with_reducible refine' x_var ?vv ?_); (case vv => exact rfl))
  | with_reducible refine x_c ?_
  | with_reducible refine x_op ?_
  | with_reducible refine x_un ?_
  | with_reducible refine x_test ?_
  | with_reducible refine x_tB ?_
  | with_reducible refine x_and ?_
  | with_reducible refine x_or ?_
  | with_reducible refine x_not ?_
  | with_reducible refine x_andV ?_
  | with_reducible refine x_orV ?_
  | with_reducible refine x_notV ?_
  | with_reducible refine x_if ?_
  | with_reducible refine x_nil ?_
  | with_reducible refine x_cons ?_
  | with_reducible refine x_tup ?_
  | with_reducible refine x_lst ?_
  | with_reducible refine x_cb ?_
  | with_reducible refine x_call ?_
  | with_reducible refine x_callS ?_
  | with_reducible refine x_callP ?_
  | with_reducible refine x_mk0 ?_
  | with_reducible refine x_mk1 ?_
  | with_reducible refine x_mk2 ?_
  | with_reducible refine x_make ?_
  | with_reducible refine x_sfld ?_
  | with_reducible refine x_din ?_
  | with_reducible refine x_dnin ?_
  | with_reducible refine x_fldS ?_
  | with_reducible refine x_sl3 ?_
  | ((with_reducible refine' r_rd ?vr ?vt ?vm ?vl ?vq); (case vr => (with_reducible assumption)); (case vt => assumption); (case vm => decide +kernel); (case vl => exact rfl))
  | with_reducible refine x_m0 ?_
  | with_reducible refine x_m1 ?_
  | with_reducible refine x_bm0 ?_
  | with_reducible refine x_bm ?_
  | with_reducible refine x_par ?_
  | with_reducible refine x_ilist ?_
  | with_reducible refine x_itup ?_
  | with_reducible refine x_istr ?_
  | ((with_reducible show tLc _ _ _ _ _ _ _ _); unfold tLc)
  | ((with_reducible show tFor _ _ _ _ _ _); unfold tFor)
  | ((with_reducible refine' x_eq ?vv ?_); (case vv => exact rfl))
  | ((with_reducible refine' x_ne ?vv ?_); (case vv => exact rfl))
  | with_reducible refine x_rI0 ?_
  | with_reducible refine x_dgetR ?_
  | with_reducible refine x_dputR ?_
  | with_reducible refine x_dnew ?_
  | with_reducible refine x_dget1 ?_
  | with_reducible refine x_dget2 ?_
  | with_reducible refine x_sl ?_
  | with_reducible refine x_nopart ?_
  | with_reducible refine x_part ?_
  | ((with_reducible refine' x_slL ?vv ?_); (case vv => (with_reducible assumption)))
  | with_reducible refine x_disp ?_
  | with_reducible refine x_pcons ?_
  | with_reducible refine x_pnil ?_
  | ((with_reducible refine' x_mod ?vv ?_); (case vv => omega); intro r er hr0 hr1; (try clear er))
  | ((with_reducible refine' x_rI ?vv ?_); (case vv => walk_at "sc"))
  | (with_reducible refine Or.inl (Exists.intro _ (And.intro rfl ?_)))
  | with_reducible refine x_T ?_
  | with_reducible refine x_F ?_
  | ((with_reducible show Exists (α := V) _); (with_reducible apply Exists.intro))
  | ((with_reducible show Exists (α := Bool) _); (with_reducible apply Exists.intro))
  | ((with_reducible show Exists (α := Nat) _); (with_reducible apply Exists.intro))
  | ((with_reducible show Exists (α := Int) _); (with_reducible apply Exists.intro))
  | ((with_reducible show Exists (α := List V) _); (with_reducible apply Exists.intro))
  | ((with_reducible show Exists (α := PySem.Str) _); (with_reducible apply Exists.intro))
  | ((with_reducible show Exists (α := Option V) _); (with_reducible apply Exists.intro))
  | ((with_reducible show Exists (α := Option Int) _); (with_reducible apply Exists.intro))
  | ((with_reducible show Exists (α := List (Key × V)) _); (with_reducible apply Exists.intro))
  | refine And.intro rfl ?_
  | ((with_reducible refine And.intro ?vv ?_); (case vv => (first | (with_reducible assumption) | (show _ ≤ sizeLine; decide) | exact len_ok rfl)))
  | (refine And.intro (Exists.intro _ rfl) ?_))
local macro_rules | `(tactic| walk_at "sc") => `(tactic| first
  | (with_reducible assumption)
  | exact divW (by omega) (by omega)
  | exact mulW (by omega) (by omega)
  | exact Or.inl ⟨by omega, by omega⟩
  | exact Or.inr ⟨by omega, by omega⟩
  | (show (_ : Int) ≠ 0; omega)
  | exact ⟨by decide, by decide, by decide⟩
  | decide)
local macro_rules | `(tactic| walk_at "rd") => `(tactic| repeat walk_at "rd1")
namespace MP
open PySem L2
section
variable {P : Program} {w : World} {K : PySem.W.Frag} {mg : Str → Option Value} {base : Heap} {ts : Nat → Tok} {kw C : Addr}
def sp_read_inside (K : PySem.W.Frag) (C : Addr) : Sp := fun vs H Q _ => ∃ (p : Addr) (ad : Nat → Addr) (R : RdM) (a : Addr) (w0 : Str) (r0 : List Str) (line : Int), vs = [.ref p, .ref a, .int line] ∧ RdAt C H p ad R ∧ Sm R ∧ Sm2 R ∧ BlkT R ∧ R.owner.isSome = true ∧ WdAt K H p ad a (w0 :: r0) ∧ RdPost C p ad H (okIns isName itemOf R (w0 :: r0)) (fun q => stIns itemOf R line q (w0 :: r0)) Q
theorem ok_read_inside {f : Addr} {fd : FuncData} (F : Fun K "read_inside" "read_inside" s_read_inside f fd) (T : ReadTxt K mg ts C) (c_is_name : Cal P w K mg base 2 "is_name" sp_is_name) (c_read_do : Cal P w K mg base 4 "read_do" (sp_read_do K C)) (c_read_end : Cal P w K mg base 1 "read_end" (sp_read_end C))
    (c_read_or : Cal P w K mg base 1 "read_or" (sp_read_or C)) (c_read_leave : Cal P w K mg base 1 "read_leave" (sp_read_leave C)) (c_read_block : Cal P w K mg base 1 "read_block" (sp_read_block C)) : FnOk P w K mg base CX0 5 f fd P_read_inside (sp_read_inside K C) := by
  refine F.ok sc_read_inside (fun vs H Q E h => ?_) (fun cdv A outer s H vs Q E hr h => ?_)
  · obtain ⟨p, ad, R, a, w0, r0, line, rfl, _⟩ := h
    rfl
  · obtain ⟨p, ad, R, a, w0, r0, line, rfl, r, sm, sm2, bt, ho, x, k⟩ := h
    have hu := hu_of hr
    have Tr := T.rd
    refine ⟨_, (pss_cons (ps_set (i := 3) sc_read_inside.nd rfl (Or.inl rfl) (pe_ix ix_list (pv 1) pe_int (fun _ _ => rfl)))
      (pss_cons (ps_if (pt_cmpR op_eq (pv 3) pe_str (nomark _)) (pss_one (ps_ret (pe_cc c_read_do hr (by decide) rfl (pa_cons (pv 0) (pa_cons (pv 1) (pa_cons (pv 2) pa_nil)))))) pss_nil)
      (pss_cons (ps_if (pt_cmpR op_eq (pv 3) pe_str (nomark _)) (pss_cons (ps_if (PW.pt (pw_or (pt_cmpR op_ne (pe_callB call_len_seq (by rfl) T.b_len (by decide +kernel) (pa_cons (pv 1) pa_nil)) pe_int (nomark _)) (pw_or (pt_not (pt_val (pe_cc c_is_name hr (by decide) rfl (pa_cons (pe_ix ix_list (pv 1) pe_int (fun _ _ => rfl)) pa_nil)))) (pw_or1 (pt_cmpR op_eq (pe_ix ix_list (pv 1) pe_int (fun _ _ => rfl)) pe_str (nomark _)))))) (pss_one (ps_ret pe_bl)) pss_nil)
      (pss_cons (ps_dput hu (pe_fld (pv 0) rfl) (pv 2) (pe_ix ix_list (pv 1) pe_int (fun _ _ => rfl)) rfl)
      (pss_one (ps_ret pe_bl)))) pss_nil)
      (pss_cons (ps_if (pt_cmpR op_ne (pe_callB call_len_seq (by rfl) T.b_len (by decide +kernel) (pa_cons (pv 1) pa_nil)) pe_int (nomark _)) (pss_one (ps_ret pe_bl)) pss_nil)
      (pss_cons (ps_if (pt_cmpR op_eq (pv 3) pe_str (nomark _)) (pss_cons (ps_expr (pe_cc c_read_end hr (by decide) rfl (pa_cons (pv 0) (pa_cons (pv 2) pa_nil))))
      (pss_one (ps_ret pe_bl))) pss_nil)
      (pss_cons (ps_if (pt_cmpR op_eq (pv 3) pe_str (nomark _)) (pss_one (ps_ret (pe_cc c_read_or hr (by decide) rfl (pa_cons (pv 0) (pa_cons (pv 2) pa_nil))))) pss_nil)
      (pss_cons (ps_if (pt_cmpR op_eq (pv 3) pe_str (nomark _)) (pss_one (ps_ret (pe_cc c_read_leave hr (by decide) rfl (pa_cons (pv 0) (pa_cons (pv 2) pa_nil))))) pss_nil)
      (pss_cons (ps_if (pt_cmpR op_in_seq (pv 3) (pe_tup (pa_cons pe_str (pa_cons pe_str (pa_cons pe_str pa_nil)))) rfl) (pss_one (ps_ret (pe_cc c_read_block hr (by decide) rfl (pa_cons (pv 0) (pa_cons (pv 3) (pa_cons (pv 2) pa_nil)))))) pss_nil)
      (pss_one (ps_ret (pe_cmpR op_in_seq (pv 3) (pe_tup (pa_cons pe_str (pa_cons pe_str pa_nil))) rfl))))))))))), ?_⟩
    show tSeq _ _ _ [some (V.ref p), some (V.ref a), some (V.int line), none] H
    obtain ⟨o, ho⟩ := Option.isSome_iff_exists.mp ho
    walk_at "rd"
    refine x_ixL (SqL.of x.at_) (atI_nat (j := 0) rfl) ?_
    walk_at "rd"
    refine x_D (fun h1 => ?_) (fun h1 => ?_)
    · have h1 := V.str.inj h1
      walk_at "rd"
      exact ⟨p, ad, R, a, w0 :: r0, line, rfl, r, sm, x, k.of Fro.refl (if_pos h1) (fun q => if_pos h1)⟩
    replace h1 : ¬ w0 = ("do" : Str) := fun z => h1 (by rw [z])
    walk_at "rd"
    refine x_D (fun h2 => ?_) (fun h2 => ?_)
    · have h2 := V.str.inj h2
      have ke : okIns isName itemOf R (w0 :: r0) = okCall isName r0 := (if_neg h1).trans (if_pos h2)
      walk_at "rd"
      refine ⟨Or.inl (SqL.of x.at_), ?_⟩
      walk_at "rd"
      refine x_ND (fun h3 => ?_) (fun h3 => ?_)
      · walk_at "rd"
        refine k.1 (ke.trans ?_) _ Fro.refl
        match r0, h3 with
        | [], _ => rfl
        | [_], h => exact absurd rfl h
        | _ :: _ :: _, _ => rfl
      have h3' : r0.length = 1 := by have := V.int.inj h3; simp only [List.length_map, List.length_cons] at this; omega
      obtain ⟨n, rfl⟩ : ∃ n, r0 = [n] := match r0, h3' with | [n], _ => ⟨n, rfl⟩
      have hln := x.el n (by simp)
      replace ke : okIns isName itemOf R [w0, n] = (isName n && !decide (n = ("main" : Str))) := ke
      walk_at "rd"
      refine x_ixL (SqL.of x.at_) (atI_nat (j := 1) rfl) ?_
      walk_at "rd"
      refine ⟨n, rfl, hln, ?_⟩
      walk_at "rd"
      refine x_NB (fun h4 => ?_) (fun h4 => ?_)
      · walk_at "rd"
        exact k.1 (ke.trans (by rw [h4]; rfl)) _ Fro.refl
      walk_at "rd"
      refine x_ixL (SqL.of x.at_) (atI_nat (j := 1) rfl) ?_
      walk_at "rd"
      refine x_D (fun h5 => ?_) (fun h5 => ?_)
      · walk_at "rd"
        exact k.1 (ke.trans (by rw [decide_eq_true (V.str.inj h5)]; simp)) _ Fro.refl
      walk_at "rd"
      refine x_ixL (SqL.of x.at_) (atI_nat (j := 1) rfl) ?_
      walk_at "rd"
      refine r_putGI n r.t7 (lt5 sm.s7) ?_
      walk_at "rd"
      have e3 : stIns itemOf R line 0 [w0, n] = { R with calls := putG R.calls line n } := (if_neg h1).trans (if_pos h2)
      refine k.2 (ke.trans (by rw [h4, decide_eq_false fun z => h5 (by rw [z])]; rfl)) 0 _ (Fro.put (by decide)) (by show RdAt C _ p ad (stIns itemOf R line 0 [w0, n]); rw [e3]; exact r.put (o := .dK (kI V.str (putG R.calls line n))) 7 (by decide) rfl rfl ⟨r.ne.mo, r.ne.os, r.ne.wo⟩)
    replace h2 : ¬ w0 = ("call" : Str) := fun z => h2 (by rw [z])
    walk_at "rd"
    refine ⟨Or.inl (SqL.of x.at_), ?_⟩
    walk_at "rd"
    refine x_ND (fun h3 => ?_) (fun h3 => ?_)
    · walk_at "rd"
      refine k.1 (((if_neg h1).trans (if_neg h2)).trans (if_pos ?_)) _ Fro.refl
      intro z
      subst z
      exact h3 rfl
    have h3' : r0 = [] := by have := V.int.inj h3; simp only [List.length_map, List.length_cons] at this; exact List.eq_nil_of_length_eq_zero (by omega)
    subst h3'
    have ke : ∀ {b}, _ = b → okIns isName itemOf R [w0] = b := fun {b} (z : _ = b) => (((if_neg h1).trans (if_neg h2)).trans (if_neg (fun z => z rfl))).trans z
    have kt : ∀ {q b}, _ = b → stIns itemOf R line q [w0] = b := fun {q b} (z : _ = b) => ((if_neg h1).trans (if_neg h2)).trans z
    walk_at "rd"
    refine x_D (fun h4 => ?_) (fun h4 => ?_)
    · have h4 := V.str.inj h4
      walk_at "rd"
      refine ⟨p, ad, R, line, o, rfl, r, sm, ho, fun H' f' r' => ?_⟩
      walk_at "rd"
      exact k.2 (ke (if_pos h4)) 0 _ f' (by show RdAt C _ p ad (stIns itemOf R line 0 [w0]); rw [kt (if_pos h4)]; exact r')
    replace h4 : ¬ w0 = ("end" : Str) := fun z => h4 (by rw [z])
    walk_at "rd"
    refine x_D (fun h5 => ?_) (fun h5 => ?_)
    · have h5 := V.str.inj h5
      walk_at "rd"
      exact ⟨p, ad, R, line, rfl, r, sm, sm2, bt, k.of Fro.refl (ke ((if_neg h4).trans (if_pos h5))) (fun q => kt ((if_neg h4).trans (if_pos h5)))⟩
    replace h5 : ¬ w0 = ("or" : Str) := fun z => h5 (by rw [z])
    walk_at "rd"
    refine x_D (fun h6 => ?_) (fun h6 => ?_)
    · have h6 := V.str.inj h6
      walk_at "rd"
      exact ⟨p, ad, R, line, rfl, r, sm, bt, k.of Fro.refl (ke (((if_neg h4).trans (if_neg h5)).trans (if_pos h6))) (fun q => kt (((if_neg h4).trans (if_neg h5)).trans (if_pos h6)))⟩
    replace h6 : ¬ w0 = ("leave" : Str) := fun z => h6 (by rw [z])
    walk_at "rd"
    intro q1 n1
    have r1 := r.same (same_upd (o := .tup ((["either", "loop", "ever"] : List Str).map V.str)) n1)
    have f1 : Fro p ad H _ := Fro.of (same_upd (o := .tup ((["either", "loop", "ever"] : List Str).map V.str)) n1)
    refine x_inT (xs := (["either", "loop", "ever"] : List Str).map V.str) (SqT.of upd_same) rfl rfl ?_
    walk_at "rd"
    rw [inV_strs]
    refine x_D (fun h7 => ?_) (fun h7 => ?_)
    · walk_at "rd"
      exact ⟨p, ad, R, w0, line, rfl, r1, sm, k.of f1 (ke ((((if_neg h4).trans (if_neg h5)).trans (if_neg h6)).trans (if_pos h7))) (fun q => kt ((((if_neg h4).trans (if_neg h5)).trans (if_neg h6)).trans (if_pos h7)))⟩
    walk_at "rd"
    intro q2 n2
    have r2 := r1.same (same_upd (o := .tup ((["back", "stop"] : List Str).map V.str)) n2)
    have f2 := f1.trans (Fro.of (same_upd (o := .tup ((["back", "stop"] : List Str).map V.str)) n2))
    refine x_inT (xs := (["back", "stop"] : List Str).map V.str) (SqT.of upd_same) rfl rfl ?_
    rw [inV_strs]
    have ke2 : okIns isName itemOf R [w0] = decide (w0 ∈ (["back", "stop"] : List Str)) := ke ((((if_neg h4).trans (if_neg h5)).trans (if_neg h6)).trans (if_neg h7))
    have kt2 : ∀ q, stIns itemOf R line q [w0] = R := fun q => kt ((((if_neg h4).trans (if_neg h5)).trans (if_neg h6)).trans (if_neg h7))
    by_cases h8 : w0 ∈ (["back", "stop"] : List Str)
    · rw [decide_eq_true h8] at ke2 ⊢
      exact k.2 ke2 0 _ f2 (by show RdAt C _ p ad (stIns itemOf R line 0 [w0]); rw [kt2]; exact r2)
    · rw [decide_eq_false h8] at ke2 ⊢
      exact k.1 ke2 _ f2
end
end MP
end
section
open PySem L2 MPX MP
local macro_rules | `(tactic| walk_at "rd1") => `(tactic| first
  | with_reducible refine x_seq ?_
  | with_reducible refine x_next ?_
  | with_reducible refine x_ret ?_
  | with_reducible refine x_retN ?_
  | with_reducible refine x_ifs ?_
  | with_reducible refine x_asg ?_
  | with_reducible refine x_drop ?_
  | with_reducible refine x_name ?_
  | ((with_reducible refine' x_var ?vv ?_); (case vv => exact rfl))
  | with_reducible refine x_c ?_
  | with_reducible refine x_op ?_
  | with_reducible refine x_un ?_
  | with_reducible refine x_test ?_
  | with_reducible refine x_tB ?_
  | with_reducible refine x_and ?_
  | with_reducible refine x_or ?_
  | with_reducible refine x_not ?_
  | with_reducible refine x_andV ?_
  | with_reducible refine x_orV ?_
  | with_reducible refine x_notV ?_
  | with_reducible refine x_if ?_
  | with_reducible refine x_nil ?_
  | with_reducible refine x_cons ?_
  | with_reducible refine x_tup ?_
  | with_reducible refine x_lst ?_
  | with_reducible refine x_cb ?_
  | with_reducible refine x_call ?_
  | with_reducible refine x_callS ?_
  | with_reducible refine x_callP ?_
  | with_reducible refine x_mk0 ?_
  | with_reducible refine x_mk1 ?_
  | with_reducible refine x_mk2 ?_
  | with_reducible refine x_make ?_
  | with_reducible refine x_sfld ?_
  | with_reducible refine x_din ?_
  | with_reducible refine x_dnin ?_
  | with_reducible refine x_fldS ?_
  | with_reducible refine x_sl3 ?_
  | ((with_reducible refine' r_rd ?vr ?vt ?vm ?vl ?vq); (case vr => (with_reducible assumption)); (case vt => assumption); (case vm => decide +kernel); (case vl => exact rfl))
  | with_reducible refine x_m0 ?_
  | with_reducible refine x_m1 ?_
  | with_reducible refine x_bm0 ?_
  | with_reducible refine x_bm ?_
  | with_reducible refine x_par ?_
  | with_reducible refine x_ilist ?_
  | with_reducible refine x_itup ?_
  | with_reducible refine x_istr ?_
  | ((with_reducible show tLc _ _ _ _ _ _ _ _); unfold tLc)
  | ((with_reducible show tFor _ _ _ _ _ _); unfold tFor)
  | ((with_reducible refine' x_eq ?vv ?_); (case vv => exact rfl))
  | ((with_reducible refine' x_ne ?vv ?_); (case vv => exact rfl))
  | with_reducible refine x_rI0 ?_
  | with_reducible refine x_dgetR ?_
  | with_reducible refine x_dputR ?_
  | with_reducible refine x_dnew ?_
  | with_reducible refine x_dget1 ?_
  | with_reducible refine x_dget2 ?_
  | with_reducible refine x_sl ?_
  | with_reducible refine x_nopart ?_
  | with_reducible refine x_part ?_
  | ((with_reducible refine' x_slL ?vv ?_); (case vv => (with_reducible assumption)))
  | with_reducible refine x_disp ?_
  | with_reducible refine x_pcons ?_
  | with_reducible refine x_pnil ?_
  | ((with_reducible refine' x_mod ?vv ?_); (case vv => omega); intro r er hr0 hr1; (try clear er))
  | ((with_reducible refine' x_rI ?vv ?_); (case vv => walk_at "sc"))
  | (with_reducible refine Or.inl (Exists.intro _ (And.intro rfl ?_)))
  | with_reducible refine x_T ?_
  | with_reducible refine x_F ?_
  | ((with_reducible show Exists (α := V) _); (with_reducible apply Exists.intro))
  | ((with_reducible show Exists (α := Bool) _); (with_reducible apply Exists.intro))
  | ((with_reducible show Exists (α := Nat) _); (with_reducible apply Exists.intro))
  | ((with_reducible show Exists (α := Int) _); (with_reducible apply Exists.intro))
  | ((with_reducible show Exists (α := List V) _); (with_reducible apply Exists.intro))
  | ((with_reducible show Exists (α := PySem.Str) _); (with_reducible apply Exists.intro))
  | ((with_reducible show Exists (α := Option V) _); (with_reducible apply Exists.intro))
  | ((with_reducible show Exists (α := Option Int) _); (with_reducible apply Exists.intro))
  | ((with_reducible show Exists (α := List (Key × V)) _); (with_reducible apply Exists.intro))
  | refine And.intro rfl ?_
  | ((with_reducible refine And.intro ?vv ?_); (case vv => (first | (with_reducible assumption) | (show _ ≤ sizeLine; decide) | exact len_ok rfl)))
  | (refine And.intro (Exists.intro _ rfl) ?_))
local macro_rules | `(tactic| walk_at "sc") => `(tactic| first
  | (with_reducible assumption)
  | exact divW (by omega) (by omega)
  | exact mulW (by omega) (by omega)
  | exact Or.inl ⟨by omega, by omega⟩
  | exact Or.inr ⟨by omega, by omega⟩
  | (show (_ : Int) ≠ 0; omega)
  | exact ⟨by decide, by decide, by decide⟩
  | decide)
local macro_rules | `(tactic| walk_at "rd") => `(tactic| repeat walk_at "rd1")
namespace MP
open PySem L2
section
variable {P : Program} {w : World} {K : PySem.W.Frag} {mg : Str → Option Value} {base : Heap} {ts : Nat → Tok} {kw C : Addr}
def sp_read_line (K : PySem.W.Frag) (C : Addr) : Sp := fun vs H Q _ => ∃ (p : Addr) (ad : Nat → Addr) (R : RdM) (a : Addr) (w0 : Str) (r0 : List Str) (line : Int), vs = [.ref p, .ref a, .int line] ∧ RdAt C H p ad R ∧ Sm R ∧ R.kinds.length < 999 ∧ R.owners.length < 999 ∧ Sm2 R ∧ BlkT R ∧ (∀ b ∈ R.blocks, b ≠ line) ∧ WdAt K H p ad a (w0 :: r0) ∧
  RdPost C p ad H (okLine isName isPrice priceOf itemOf R line (w0 :: r0)) (fun q => stLine isName isPrice priceOf itemOf R line q (w0 :: r0)) Q
theorem ok_read_line {f : Addr} {fd : FuncData} (F : Fun K "read_line" "read_line" s_read_line f fd) (T : ReadTxt K mg ts C) (c_read_mode : Cal P w K mg base 3 "read_mode" (sp_read_mode K C)) (c_read_start : Cal P w K mg base 1 "read_start" (sp_read_start K C)) (c_read_proc : Cal P w K mg base 3 "read_proc" (sp_read_proc K C))
    (c_read_inside : Cal P w K mg base 5 "read_inside" (sp_read_inside K C)) : FnOk P w K mg base CX0 6 f fd P_read_line (sp_read_line K C) := by
  refine F.ok sc_read_line (fun vs H Q E h => ?_) (fun cdv A outer s H vs Q E hr h => ?_)
  · obtain ⟨p, ad, R, a, w0, r0, line, rfl, _⟩ := h
    rfl
  · obtain ⟨p, ad, R, a, w0, r0, line, rfl, r, sm, sk, so, sm2, bt, hfr, x, k⟩ := h
    have hu := hu_of hr
    have Tr := T.rd
    refine ⟨_, (pss_cons (ps_dput hu (pe_fld (pv 0) rfl) (pv 2) (pe_ix ix_list (pv 1) pe_int (fun _ _ => rfl)) rfl)
      (pss_cons (ps_if (pt_cmpR op_eq (pe_ix ix_list (pv 1) pe_int (fun _ _ => rfl)) pe_str (nomark _)) (pss_one (ps_ret (pe_cc c_read_mode hr (by decide) rfl (pa_cons (pv 0) (pa_cons (pv 1) pa_nil))))) pss_nil)
      (pss_cons (ps_if (pt_cmpR op_eq (pe_ix ix_list (pv 1) pe_int (fun _ _ => rfl)) pe_str (nomark _)) (pss_one (ps_ret (pe_cc c_read_start hr (by decide) rfl (pa_cons (pv 0) (pa_cons (pv 1) pa_nil))))) pss_nil)
      (pss_cons (ps_if (pt_cmpR op_eq (pe_ix ix_list (pv 1) pe_int (fun _ _ => rfl)) pe_str (nomark _)) (pss_one (ps_ret (pe_cc c_read_proc hr (by decide) rfl (pa_cons (pv 0) (pa_cons (pv 1) (pa_cons (pv 2) pa_nil)))))) pss_nil)
      (pss_cons (ps_if (pt_cmpR op_isN (pe_fld (pv 0) rfl) pe_non (nomark _)) (pss_one (ps_ret pe_bl)) pss_nil)
      (pss_cons (ps_dput hu (pe_fld (pv 0) rfl) (pv 2) (pe_fld (pv 0) rfl) rfl)
      (pss_one (ps_ret (pe_cc c_read_inside hr (by decide) rfl (pa_cons (pv 0) (pa_cons (pv 1) (pa_cons (pv 2) pa_nil)))))))))))), ?_⟩
    show tSeq _ _ _ [some (V.ref p), some (V.ref a), some (V.int line)] H
    walk_at "rd"
    refine x_ixL (SqL.of x.at_) (atI_nat (j := 0) rfl) ?_
    walk_at "rd"
    refine r_putGI w0 r.t3 (lt5 sm.s3) ?_
    have r1 : RdAt C _ p ad (noteK R line w0) := r.put (o := .dK (kI V.str (putG R.kinds line w0))) 3 (by decide) rfl rfl ⟨r.ne.mo, r.ne.os, r.ne.wo⟩
    have f1 : Fro p ad H _ := Fro.put (o := .dK (kI V.str (putG R.kinds line w0))) (i := 3) (by decide)
    have x1 := x.fro f1
    have sm1 : Sm (noteK R line w0) := ⟨sm.s0, sm.s1, sm.s2, Nat.lt_of_le_of_lt (putG_len ..) (by omega), sm.s4, sm.s5, sm.s6, sm.s7, sm.s8, sm.s9, sm.s10, sm.s11⟩
    walk_at "rd"
    refine x_ixL (SqL.of x1.at_) (atI_nat (j := 0) rfl) ?_
    walk_at "rd"
    refine x_D (fun h1 => ?_) (fun h1 => ?_)
    · have h1 := V.str.inj h1
      walk_at "rd"
      exact ⟨p, ad, _, a, w0 :: r0, rfl, r1, sm1, x1, k.of f1 (if_pos h1) (fun q => if_pos h1)⟩
    replace h1 : ¬ w0 = ("mode" : Str) := fun z => h1 (by rw [z])
    walk_at "rd"
    refine x_ixL (SqL.of x1.at_) (atI_nat (j := 0) rfl) ?_
    walk_at "rd"
    refine x_D (fun h2 => ?_) (fun h2 => ?_)
    · have h2 := V.str.inj h2
      walk_at "rd"
      exact ⟨p, ad, _, a, w0 :: r0, rfl, r1, sm1, x1, k.of f1 ((if_neg h1).trans (if_pos h2)) (fun q => (if_neg h1).trans (if_pos h2))⟩
    replace h2 : ¬ w0 = ("start" : Str) := fun z => h2 (by rw [z])
    walk_at "rd"
    refine x_ixL (SqL.of x1.at_) (atI_nat (j := 0) rfl) ?_
    walk_at "rd"
    refine x_D (fun h3 => ?_) (fun h3 => ?_)
    · have h3 := V.str.inj h3
      walk_at "rd"
      exact ⟨p, ad, _, a, w0 :: r0, line, rfl, r1, sm1, x1, k.of f1 (((if_neg h1).trans (if_neg h2)).trans (if_pos h3)) (fun q => ((if_neg h1).trans (if_neg h2)).trans (if_pos h3))⟩
    replace h3 : ¬ w0 = ("proc" : Str) := fun z => h3 (by rw [z])
    have ke : ∀ {b}, _ = b → okLine isName isPrice priceOf itemOf R line (w0 :: r0) = b := fun {b} (z : _ = b) => (((if_neg h1).trans (if_neg h2)).trans (if_neg h3)).trans z
    have kt : ∀ {q b}, _ = b → stLine isName isPrice priceOf itemOf R line q (w0 :: r0) = b := fun {q b} (z : _ = b) => (((if_neg h1).trans (if_neg h2)).trans (if_neg h3)).trans z
    walk_at "rd"
    refine x_D (fun h4 => ?_) (fun h4 => ?_)
    · have h4 : R.owner = none := own_non.mp h4
      walk_at "rd"
      exact k.1 (ke (by rw [h4])) _ f1
    obtain ⟨o, ho⟩ : ∃ o, R.owner = some o := by
      cases e : R.owner with
      | none => exact absurd (own_non.mpr e) h4
      | some o => exact ⟨o, rfl⟩
    walk_at "rd"
    have hov : ownV (noteK R line w0).owner = .str o := by show ownV R.owner = _; rw [ho]; rfl
    rw [hov]
    refine r_putGI o r1.t4 (lt5 sm1.s4) ?_
    have r2 : RdAt C _ p ad { noteK R line w0 with owners := putG R.owners line o } := r1.put (o := .dK (kI V.str (putG R.owners line o))) 4 (by decide) rfl rfl ⟨r1.ne.mo, r1.ne.os, r1.ne.wo⟩
    have f2 : Fro p ad H _ := f1.trans (Fro.put (o := .dK (kI V.str (putG R.owners line o))) (i := 4) (by decide))
    have x2 := x.fro f2
    have sm3 : Sm { noteK R line w0 with owners := putG R.owners line o } := ⟨sm.s0, sm.s1, sm.s2, sm1.s3, Nat.lt_of_le_of_lt (putG_len ..) (by omega), sm.s5, sm.s6, sm.s7, sm.s8, sm.s9, sm.s10, sm.s11⟩
    walk_at "rd"
    refine ⟨p, ad, _, a, w0, r0, line, rfl, r2, sm3, ⟨sm2.m, sm2.o⟩, fun b hb => ?_, by show R.owner.isSome = true; rw [ho]; rfl, x2, k.of f2 (ke (by rw [ho])) (fun q => kt (by rw [ho]))⟩
    obtain ⟨kd, hk, hor⟩ := bt b hb
    refine ⟨kd, ?_, hor⟩
    show look (putG R.kinds line w0) b = some kd
    rw [look_putG, if_neg fun z => hfr b hb z.symm]
    exact hk
end
end MP
end
section
open PySem L2 MPX MP
local macro_rules | `(tactic| walk_at "rd1") => `(tactic| first
  | with_reducible refine x_seq ?_
  | with_reducible refine x_next ?_
  | with_reducible refine x_ret ?_
  | with_reducible refine x_retN ?_
  | with_reducible refine x_ifs ?_
  | with_reducible refine x_asg ?_
  | with_reducible refine x_drop ?_
  | with_reducible refine x_name ?_
  | ((with_reducible refine' x_var ?vv ?_); (case vv => exact rfl))
  | with_reducible refine x_c ?_
  | with_reducible refine x_op ?_
  | with_reducible refine x_un ?_
  | with_reducible refine x_test ?_
  | with_reducible refine x_tB ?_
  | with_reducible refine x_and ?_
  | with_reducible refine x_or ?_
  | with_reducible refine x_not ?_
  | with_reducible refine x_andV ?_
  | with_reducible refine x_orV ?_
  | with_reducible refine x_notV ?_
  | with_reducible refine x_if ?_
  | with_reducible refine x_nil ?_
  | with_reducible refine x_cons ?_
  | with_reducible refine x_tup ?_
  | with_reducible refine x_lst ?_
  | with_reducible refine x_cb ?_
  | with_reducible refine x_call ?_
  | with_reducible refine x_callS ?_
  | with_reducible refine x_callP ?_
  | with_reducible refine x_mk0 ?_
  | with_reducible refine x_mk1 ?_
  | with_reducible refine x_mk2 ?_
  | with_reducible refine x_make ?_
  | with_reducible refine x_sfld ?_
  | with_reducible refine x_din ?_
  | with_reducible refine x_dnin ?_
  | with_reducible refine x_fldS ?_
  | with_reducible refine x_sl3 ?_
  | ((with_reducible refine' r_rd ?vr ?vt ?vm ?vl ?vq); (case vr => (with_reducible assumption)); (case vt => assumption); (case vm => decide +kernel); (case vl => exact rfl))
  | with_reducible refine x_m0 ?_
  | with_reducible refine x_m1 ?_
  | with_reducible refine x_bm0 ?_
  | with_reducible refine x_bm ?_
  | with_reducible refine x_par ?_
  | with_reducible refine x_ilist ?_
  | with_reducible refine x_itup ?_
  | with_reducible refine x_istr ?_
  | ((with_reducible show tLc _ _ _ _ _ _ _ _); unfold tLc)
  | ((with_reducible show tFor _ _ _ _ _ _); unfold tFor)
  | ((with_reducible refine' x_eq ?vv ?_); (case vv => exact rfl))
  | ((with_reducible refine' x_ne ?vv ?_); (case vv => exact rfl))
  | with_reducible refine x_rI0 ?_
  | with_reducible refine x_dgetR ?_
  | with_reducible refine x_dputR ?_
  | with_reducible refine x_dnew ?_
  | with_reducible refine x_dget1 ?_
  | with_reducible refine x_dget2 ?_
  | with_reducible refine x_sl ?_
  | with_reducible refine x_nopart ?_
  | with_reducible refine x_part ?_
  | ((with_reducible refine' x_slL ?vv ?_); (case vv => (with_reducible assumption)))
  | with_reducible refine x_disp ?_
  | with_reducible refine x_pcons ?_
  | with_reducible refine x_pnil ?_
  | ((with_reducible refine' x_mod ?vv ?_); (case vv => omega); intro r er hr0 hr1; (try clear er))
  | ((with_reducible refine' x_rI ?vv ?_); (case vv => walk_at "sc"))
  | (with_reducible refine Or.inl (Exists.intro _ (And.intro rfl ?_)))
  | with_reducible refine x_T ?_
  | with_reducible refine x_F ?_
  | ((with_reducible show Exists (α := V) _); (with_reducible apply Exists.intro))
  | ((with_reducible show Exists (α := Bool) _); (with_reducible apply Exists.intro))
  | ((with_reducible show Exists (α := Nat) _); (with_reducible apply Exists.intro))
  | ((with_reducible show Exists (α := Int) _); (with_reducible apply Exists.intro))
  | ((with_reducible show Exists (α := List V) _); (with_reducible apply Exists.intro))
  | ((with_reducible show Exists (α := PySem.Str) _); (with_reducible apply Exists.intro))
  | ((with_reducible show Exists (α := Option V) _); (with_reducible apply Exists.intro))
  | ((with_reducible show Exists (α := Option Int) _); (with_reducible apply Exists.intro))
  | ((with_reducible show Exists (α := List (Key × V)) _); (with_reducible apply Exists.intro))
  | refine And.intro rfl ?_
  | ((with_reducible refine And.intro ?vv ?_); (case vv => (first | (with_reducible assumption) | (show _ ≤ sizeLine; decide) | exact len_ok rfl)))
  | (refine And.intro (Exists.intro _ rfl) ?_))
local macro_rules | `(tactic| walk_at "sc") => `(tactic| first
  | (with_reducible assumption)
  | exact divW (by omega) (by omega)
  | exact mulW (by omega) (by omega)
  | exact Or.inl ⟨by omega, by omega⟩
  | exact Or.inr ⟨by omega, by omega⟩
  | (show (_ : Int) ≠ 0; omega)
  | exact ⟨by decide, by decide, by decide⟩
  | decide)
local macro_rules | `(tactic| walk_at "rd") => `(tactic| repeat walk_at "rd1")
namespace MP
open PySem L2
section
variable {P : Program} {w : World} {K : PySem.W.Frag} {mg : Str → Option Value} {base : Heap} {ts : Nat → Tok} {kw C : Addr}
def sp_init (C : Addr) : Sp := fun vs H Q _ => ∃ (x dx : Addr), vs = [.ref x] ∧ H x = some (.ins C dx []) ∧ ∀ ad H', RdAt C H' x ad RdM.empty → (∀ j, j < 12 → H (ad j) = none) → (∀ b o, H b = some o → b ≠ x → H' b = some o) → Q .non H'
theorem ok_init {f : Addr} {fd : FuncData} (F : Fun K "__init__" "Reading.__init__" s_Reading___init__ f fd) (T : RdTxt K C) : FnOk P w K mg base CX0 1 f fd P_Reading___init__ (sp_init C) := by
  refine F.ok sc_Reading___init__ (fun vs H Q E h => ?_) (fun cdv A outer s H vs Q E hr h => ?_)
  · obtain ⟨x, dx, rfl, _⟩ := h
    rfl
  · obtain ⟨x, dx, rfl, hx, k⟩ := h
    refine ⟨_, (pss_cons (ps_fld (pv 0) pe_dnewK rfl)
      (pss_cons (ps_fld (pv 0) pe_dnewK rfl)
      (pss_cons (ps_fld (pv 0) pe_dnewK rfl)
      (pss_cons (ps_fld (pv 0) pe_dnewK rfl)
      (pss_cons (ps_fld (pv 0) pe_dnewK rfl)
      (pss_cons (ps_fld (pv 0) pe_dnewK rfl)
      (pss_cons (ps_fld (pv 0) pe_dnewK rfl)
      (pss_cons (ps_fld (pv 0) pe_dnewK rfl)
      (pss_cons (ps_fld (pv 0) pe_dnewK rfl)
      (pss_cons (ps_fld (pv 0) pe_dnewK rfl)
      (pss_cons (ps_fld (pv 0) pe_dnewK rfl)
      (pss_cons (ps_fld (pv 0) pe_non rfl)
      (pss_one (ps_fld (pv 0) (pe_lst pa_nil) rfl)))))))))))))), ?_⟩
    show tSeq _ _ _ [some (V.ref x)] H
    have i0 : IniAt H C dx x H [] [] := ⟨hx, fun e he => (nomatch he), List.nodup_nil, fun e he => (nomatch he), fun e he => (nomatch he), fun _ _ e _ => e⟩
    walk_at "rd"
    intro p0 n0
    have j0 := i0.alloc (.dK []) n0
    walk_at "rd"
    refine ⟨_, rfl, j0.ob, T.cl, T.na _ (by decide +kernel), Nat.le_of_ble_eq_true rfl, ?_⟩
    have i1 := j0.set (putF "modes" (.ref p0) [])
    clear j0 i0
    walk_at "rd"
    intro p1 n1
    have j1 := i1.alloc (.dK []) n1
    walk_at "rd"
    refine ⟨_, rfl, j1.ob, T.cl, T.na _ (by decide +kernel), Nat.le_of_ble_eq_true rfl, ?_⟩
    have i2 := j1.set (putF "begins" (.ref p1) (putF "modes" (.ref p0) []))
    clear j1 i1
    walk_at "rd"
    intro p2 n2
    have j2 := i2.alloc (.dK []) n2
    walk_at "rd"
    refine ⟨_, rfl, j2.ob, T.cl, T.na _ (by decide +kernel), Nat.le_of_ble_eq_true rfl, ?_⟩
    have i3 := j2.set (putF "routines" (.ref p2) (putF "begins" (.ref p1) (putF "modes" (.ref p0) [])))
    clear j2 i2
    walk_at "rd"
    intro p3 n3
    have j3 := i3.alloc (.dK []) n3
    walk_at "rd"
    refine ⟨_, rfl, j3.ob, T.cl, T.na _ (by decide +kernel), Nat.le_of_ble_eq_true rfl, ?_⟩
    have i4 := j3.set (putF "kinds" (.ref p3) (putF "routines" (.ref p2) (putF "begins" (.ref p1) (putF "modes" (.ref p0) []))))
    clear j3 i3
    walk_at "rd"
    intro p4 n4
    have j4 := i4.alloc (.dK []) n4
    walk_at "rd"
    refine ⟨_, rfl, j4.ob, T.cl, T.na _ (by decide +kernel), Nat.le_of_ble_eq_true rfl, ?_⟩
    have i5 := j4.set (putF "owners" (.ref p4) (putF "kinds" (.ref p3) (putF "routines" (.ref p2) (putF "begins" (.ref p1) (putF "modes" (.ref p0) [])))))
    clear j4 i4
    walk_at "rd"
    intro p5 n5
    have j5 := i5.alloc (.dK []) n5
    walk_at "rd"
    refine ⟨_, rfl, j5.ob, T.cl, T.na _ (by decide +kernel), Nat.le_of_ble_eq_true rfl, ?_⟩
    have i6 := j5.set (putF "partners" (.ref p5) (putF "owners" (.ref p4) (putF "kinds" (.ref p3) (putF "routines" (.ref p2) (putF "begins" (.ref p1) (putF "modes" (.ref p0) []))))))
    clear j5 i5
    walk_at "rd"
    intro p6 n6
    have j6 := i6.alloc (.dK []) n6
    walk_at "rd"
    refine ⟨_, rfl, j6.ob, T.cl, T.na _ (by decide +kernel), Nat.le_of_ble_eq_true rfl, ?_⟩
    have i7 := j6.set (putF "ors" (.ref p6) (putF "partners" (.ref p5) (putF "owners" (.ref p4) (putF "kinds" (.ref p3) (putF "routines" (.ref p2) (putF "begins" (.ref p1) (putF "modes" (.ref p0) [])))))))
    clear j6 i6
    walk_at "rd"
    intro p7 n7
    have j7 := i7.alloc (.dK []) n7
    walk_at "rd"
    refine ⟨_, rfl, j7.ob, T.cl, T.na _ (by decide +kernel), Nat.le_of_ble_eq_true rfl, ?_⟩
    have i8 := j7.set (putF "calls" (.ref p7) (putF "ors" (.ref p6) (putF "partners" (.ref p5) (putF "owners" (.ref p4) (putF "kinds" (.ref p3) (putF "routines" (.ref p2) (putF "begins" (.ref p1) (putF "modes" (.ref p0) []))))))))
    clear j7 i7
    walk_at "rd"
    intro p8 n8
    have j8 := i8.alloc (.dK []) n8
    walk_at "rd"
    refine ⟨_, rfl, j8.ob, T.cl, T.na _ (by decide +kernel), Nat.le_of_ble_eq_true rfl, ?_⟩
    have i9 := j8.set (putF "leaves" (.ref p8) (putF "calls" (.ref p7) (putF "ors" (.ref p6) (putF "partners" (.ref p5) (putF "owners" (.ref p4) (putF "kinds" (.ref p3) (putF "routines" (.ref p2) (putF "begins" (.ref p1) (putF "modes" (.ref p0) [])))))))))
    clear j8 i8
    walk_at "rd"
    intro p9 n9
    have j9 := i9.alloc (.dK []) n9
    walk_at "rd"
    refine ⟨_, rfl, j9.ob, T.cl, T.na _ (by decide +kernel), Nat.le_of_ble_eq_true rfl, ?_⟩
    have i10 := j9.set (putF "works" (.ref p9) (putF "leaves" (.ref p8) (putF "calls" (.ref p7) (putF "ors" (.ref p6) (putF "partners" (.ref p5) (putF "owners" (.ref p4) (putF "kinds" (.ref p3) (putF "routines" (.ref p2) (putF "begins" (.ref p1) (putF "modes" (.ref p0) []))))))))))
    clear j9 i9
    walk_at "rd"
    intro p10 n10
    have j10 := i10.alloc (.dK []) n10
    walk_at "rd"
    refine ⟨_, rfl, j10.ob, T.cl, T.na _ (by decide +kernel), Nat.le_of_ble_eq_true rfl, ?_⟩
    have i11 := j10.set (putF "ends" (.ref p10) (putF "works" (.ref p9) (putF "leaves" (.ref p8) (putF "calls" (.ref p7) (putF "ors" (.ref p6) (putF "partners" (.ref p5) (putF "owners" (.ref p4) (putF "kinds" (.ref p3) (putF "routines" (.ref p2) (putF "begins" (.ref p1) (putF "modes" (.ref p0) [])))))))))))
    clear j10 i10
    walk_at "rd"
    refine ⟨_, rfl, i11.ob, T.cl, T.na _ (by decide +kernel), Nat.le_of_ble_eq_true rfl, ?_⟩
    have i12 := i11.set (putF "owner" .non (putF "ends" (.ref p10) (putF "works" (.ref p9) (putF "leaves" (.ref p8) (putF "calls" (.ref p7) (putF "ors" (.ref p6) (putF "partners" (.ref p5) (putF "owners" (.ref p4) (putF "kinds" (.ref p3) (putF "routines" (.ref p2) (putF "begins" (.ref p1) (putF "modes" (.ref p0) []))))))))))))
    walk_at "rd"
    intro p11 n11
    have j12 := i12.alloc (.lst []) n11
    walk_at "rd"
    refine ⟨_, rfl, j12.ob, T.cl, T.na _ (by decide +kernel), Nat.le_of_ble_eq_true rfl, ?_⟩
    have i13 := j12.set (putF "blocks" (.ref p11) (putF "owner" .non (putF "ends" (.ref p10) (putF "works" (.ref p9) (putF "leaves" (.ref p8) (putF "calls" (.ref p7) (putF "ors" (.ref p6) (putF "partners" (.ref p5) (putF "owners" (.ref p4) (putF "kinds" (.ref p3) (putF "routines" (.ref p2) (putF "begins" (.ref p1) (putF "modes" (.ref p0) [])))))))))))))
    obtain ⟨r, hn⟩ := i13.rd rfl (fun j => ([p0, p1, p2, p3, p4, p5, p6, p7, p8, p9, p10, p11] : List Addr).getD j 0) (fun j hj => by
      rcases in12 hj with rfl | rfl | rfl | rfl | rfl | rfl | rfl | rfl | rfl | rfl | rfl | rfl
      all_goals exact ⟨_, rfl, rfl⟩) rfl
    exact k _ _ r hn i13.fr
end
end MP
end
section
namespace MP
open PySem L2
/-! ### what stays true of the tables from line to line -/
structure Gd (n : Nat) (line : Int) (R : RdM) : Prop where
  l0 : R.modes.length ≤ n
  l1 : R.begins.length ≤ n
  l2 : R.routines.length ≤ n
  l3 : R.kinds.length ≤ n
  l4 : R.owners.length ≤ n
  l5 : R.partners.length ≤ 2 * n
  l6 : R.ors.length ≤ n
  l7 : R.calls.length ≤ n
  l8 : R.leaves.length ≤ n
  l9 : R.works.length ≤ n
  l10 : R.ends.length ≤ n
  l11 : R.blocks.length ≤ n
  mo : ∀ x ∈ R.modes, x.2.2.length ≤ 12
  os : ∀ x ∈ R.ors, x.2.2.length ≤ n
  bt : BlkT R
  bl : ∀ b ∈ R.blocks, b < line
/-- the same when the line's kind is noted -/
structure Gk (n : Nat) (line : Int) (k : Str) (R : RdM) : Prop where
  l0 : R.modes.length ≤ n
  l1 : R.begins.length ≤ n
  l2 : R.routines.length ≤ n
  l3 : R.kinds.length ≤ n + 1
  l4 : R.owners.length ≤ n + 1
  l5 : R.partners.length ≤ 2 * n
  l6 : R.ors.length ≤ n
  l7 : R.calls.length ≤ n
  l8 : R.leaves.length ≤ n
  l9 : R.works.length ≤ n
  l10 : R.ends.length ≤ n
  l11 : R.blocks.length ≤ n
  mo : ∀ x ∈ R.modes, x.2.2.length ≤ 12
  os : ∀ x ∈ R.ors, x.2.2.length ≤ n
  bt : BlkT R
  bl : ∀ b ∈ R.blocks, b < line
  kk : look R.kinds line = some k
theorem Gd.start (n : Nat) (line : Int) : Gd n line RdM.empty := by
  constructor
  all_goals first
    | exact Nat.zero_le _
    | (intro x hx; cases hx)
theorem Gd.mono {n m : Nat} {line lin2 : Int} {R : RdM} (g : Gd n line R) (h : n ≤ m) (h2 : line ≤ lin2) : Gd m lin2 R := by
  obtain ⟨l0, l1, l2, l3, l4, l5, l6, l7, l8, l9, l10, l11, mo, os, bt, bl⟩ := g
  exact ⟨by omega, by omega, by omega, by omega, by omega, by omega, by omega, by omega, by omega, by omega, by omega, by omega, mo, fun x hx => Nat.le_trans (os x hx) h, bt, fun b hb => by have := bl b hb; omega⟩
theorem BlkT.kinds {R : RdM} (bt : BlkT R) {line : Int} {k : Str} (h : ∀ b ∈ R.blocks, b < line) : BlkT { R with kinds := putG R.kinds line k } := fun b hb => by
  obtain ⟨kd, hk, ho⟩ := bt b hb
  refine ⟨kd, ?_, ho⟩
  show look (putG R.kinds line k) b = some kd
  rw [look_putG, if_neg fun z => by have := h b hb; omega]
  exact hk
theorem Gd.note {n : Nat} {line : Int} {R : RdM} (g : Gd n line R) (k : Str) : Gk n line k (noteK R line k) := by
  obtain ⟨l0, l1, l2, l3, l4, l5, l6, l7, l8, l9, l10, l11, mo, os, bt, bl⟩ := g
  refine ⟨l0, l1, l2, Nat.le_trans (putG_len ..) (by omega), by show R.owners.length ≤ n + 1; omega, l5, l6, l7, l8, l9, l10, l11, mo, os, bt.kinds bl, bl, ?_⟩
  show look (putG R.kinds line k) line = some k
  rw [look_putG, if_pos rfl]
theorem Gd.noteO {n : Nat} {line : Int} {R : RdM} (g : Gd n line R) (k o : Str) : Gk n line k { noteK R line k with owners := putG R.owners line o } := by
  have h := g.note k
  exact ⟨h.l0, h.l1, h.l2, h.l3, Nat.le_trans (putG_len ..) (by have := g.l4; omega), h.l5, h.l6, h.l7, h.l8, h.l9, h.l10, h.l11, h.mo, h.os, h.bt, h.bl, h.kk⟩
theorem Gk.to {n : Nat} {line : Int} {k : Str} {R : RdM} (g : Gk n line k R) : Gd (n + 1) (line + 1) R := by
  obtain ⟨l0, l1, l2, l3, l4, l5, l6, l7, l8, l9, l10, l11, mo, os, bt, bl, kk⟩ := g
  exact ⟨by omega, by omega, by omega, by omega, by omega, by omega, by omega, by omega, by omega, by omega, by omega, by omega, mo, fun x hx => by have := os x hx; omega, bt, fun b hb => by have := bl b hb; omega⟩
theorem modeItems_len {nm pr : Str → Bool} {val : Str → Int} : ∀ (r : List Str) (acc : List (Str × Int)) {vs : List (Str × Int)}, modeItems nm pr val r acc = some vs → vs.length ≤ acc.length + r.length
  | [], acc, vs, h => by
    cases (show some acc = some vs from h)
    omega
  | [_], acc, vs, h => by
    cases (show some acc = some vs from h)
    omega
  | v :: p :: r, acc, vs, h => by
    unfold modeItems at h
    split at h
    · have := modeItems_len r _ h
      have := putG_len acc v (val p)
      simp only [List.length_cons]
      omega
    · cases h
section
variable {n : Nat} {line : Int} {k : Str} {R : RdM}
theorem Gk.mode {nm pr : Str → Bool} {val : Str → Int} {q : Addr} {ws : List Str} (g : Gk n line k R) (h : okMode nm pr val R ws = true) : Gd (n + 1) (line + 1) (stMode nm pr val R q ws) := by
  have g1 := g.to
  match ws, h with
  | [], h => exact g1
  | [_], h => exact g1
  | w0 :: m :: r, h =>
    unfold okMode at h
    have hr : r.length ≤ 12 := by
      simp only [Bool.and_eq_true, decide_eq_true_eq] at h
      exact h.1.1.1.1.1.2
    cases e : modeItems nm pr val r [] with
    | none =>
      have es : stMode nm pr val R q (w0 :: m :: r) = R := by
        unfold stMode
        simp only [e]
      rw [es]
      exact g1
    | some vs =>
      have es : stMode nm pr val R q (w0 :: m :: r) = { R with modes := putG R.modes m (q, vs) } := by
        unfold stMode
        simp only [e]
      rw [es]
      have hl := modeItems_len r [] e
      refine { g1 with l0 := Nat.le_trans (putG_len ..) (by have := g.l0; omega), mo := fun x hx => ?_ }
      rcases mem_putG hx with z | hx
      · rw [z]
        show vs.length ≤ 12
        simp only [List.length_nil] at hl
        omega
      · exact g.mo x hx
theorem Gk.start {ws : List Str} (g : Gk n line k R) : Gd (n + 1) (line + 1) (stStart R ws) := by
  have g1 := g.to
  unfold stStart
  split
  · exact { g1 with l1 := Nat.le_trans (putG_len ..) (by have := g.l1; omega) }
  · exact g1
theorem Gk.proc {ws : List Str} (g : Gk n line k R) : Gd (n + 1) (line + 1) (stProc R line ws) := by
  have g1 := g.to
  unfold stProc
  split
  · exact { g1 with l2 := Nat.le_trans (putG_len ..) (by have := g.l2; omega) }
  · exact g1
theorem Gk.doL {it : Str → Option (Str × Str)} {q : Addr} {ws : List Str} (g : Gk n line k R) : Gd (n + 1) (line + 1) (stDo it R line q ws) := by
  have g1 := g.to
  unfold stDo
  split
  · split
    · exact { g1 with l9 := Nat.le_trans (putG_len ..) (by have := g.l9; omega) }
    · exact g1
  · exact g1
theorem Gk.call {r : List Str} (g : Gk n line k R) : Gd (n + 1) (line + 1) (stCall R line r) := by
  have g1 := g.to
  unfold stCall
  split
  · exact { g1 with l7 := Nat.le_trans (putG_len ..) (by have := g.l7; omega) }
  · exact g1
theorem Gk.leave (g : Gk n line k R) : Gd (n + 1) (line + 1) (stLeave R line) := by
  have g1 := g.to
  unfold stLeave
  split
  · exact { g1 with l8 := Nat.le_trans (putG_len ..) (by have := g.l8; omega) }
  · exact g1
theorem Gk.endL (g : Gk n line k R) : Gd (n + 1) (line + 1) (stEnd R line) := by
  have g1 := g.to
  unfold stEnd
  split
  · split
    · exact { g1 with l10 := Nat.le_trans (putG_len ..) (by have := g.l10; omega) }
    · exact g1
  · rename_i first _
    refine { g1 with l5 := ?_, l11 := ?_, bt := fun b hb => g.bt b (List.dropLast_subset _ hb), bl := fun b hb => g1.bl b (List.dropLast_subset _ hb) }
    · have h1 := putG_len R.partners first line
      have h2 := putG_len (putG R.partners first line) line first
      have := g.l5
      show (putG (putG R.partners first line) line first).length ≤ 2 * (n + 1)
      omega
    · show R.blocks.dropLast.length ≤ n + 1
      rw [List.length_dropLast]
      have := g.l11
      omega
theorem Gk.orL {q : Addr} (g : Gk n line k R) : Gd (n + 1) (line + 1) (stOr R line q) := by
  have g1 := g.to
  unfold stOr
  split
  · exact g1
  · rename_i first _
    split
    · rename_i x hx
      have hxl := g.os _ (look_mem hx)
      refine { g1 with l5 := ?_, l6 := Nat.le_trans (putG_len ..) (by have := g.l6; omega), os := fun y hy => ?_, bt := fun b hb => ?_ }
      · have h1 := putG_len R.partners line first
        have := g.l5
        show (putG R.partners line first).length ≤ 2 * (n + 1)
        omega
      · rcases mem_putG hy with z | hy
        · rw [z]
          show (x.2 ++ [line]).length ≤ n + 1
          rw [List.length_append]
          exact Nat.succ_le_succ hxl
        · exact g1.os y hy
      · obtain ⟨kd, hk, ho⟩ := g.bt b hb
        refine ⟨kd, hk, fun z => ?_⟩
        show (look (putG R.ors first (q, x.2 ++ [line])) b).isSome = true
        rw [look_putG]
        split
        · rfl
        · exact ho z
    · exact g1
theorem Gk.block {q : Addr} (g : Gk n line k R) : Gd (n + 1) (line + 1) (stBlock R k line q) := by
  have g1 := g.to
  have hl : (R.blocks ++ [line]).length ≤ n + 1 := by rw [List.length_append]; exact Nat.succ_le_succ g.l11
  have hb : ∀ b ∈ R.blocks ++ [line], b < line + 1 := fun b hb => by
    rcases List.mem_append.mp hb with hb | hb
    · have := g.bl b hb
      omega
    · rw [List.mem_singleton.mp hb]
      omega
  unfold stBlock
  split
  · refine { g1 with l11 := hl, bl := hb, l6 := Nat.le_trans (putG_len ..) (by have := g.l6; omega), os := fun y hy => ?_, bt := fun b hb => ?_ }
    · rcases mem_putG hy with z | hy
      · rw [z]
        exact Nat.zero_le _
      · exact g1.os y hy
    · have lk : ∀ b, (look (putG R.ors line (q, ([] : List Int))) b).isSome = true ∨ look (putG R.ors line (q, ([] : List Int))) b = look R.ors b := fun b => by
        rw [look_putG]
        split
        · exact .inl rfl
        · exact .inr rfl
      rcases List.mem_append.mp hb with hb | hb
      · obtain ⟨kd, hk, ho⟩ := g.bt b hb
        refine ⟨kd, hk, fun z => ?_⟩
        rcases lk b with e | e
        · exact e
        · exact (congrArg Option.isSome e).trans (ho z)
      · rw [List.mem_singleton.mp hb]
        refine ⟨k, g.kk, fun _ => ?_⟩
        show (look (putG R.ors line (q, ([] : List Int))) line).isSome = true
        rw [look_putG, if_pos rfl]
        rfl
  · rename_i hk
    refine { g1 with l11 := hl, bl := hb, bt := fun b hb => ?_ }
    rcases List.mem_append.mp hb with hb | hb
    · exact g.bt b hb
    · rw [List.mem_singleton.mp hb]
      exact ⟨k, g.kk, fun z => absurd z hk⟩
theorem Gk.ins {it : Str → Option (Str × Str)} {q : Addr} {r : List Str} (g : Gk n line k R) : Gd (n + 1) (line + 1) (stIns it R line q (k :: r)) := by
  by_cases h1 : k = ("do" : Str)
  · rw [show stIns it R line q (k :: r) = stDo it R line q (k :: r) from if_pos h1]
    exact g.doL
  by_cases h2 : k = ("call" : Str)
  · rw [show stIns it R line q (k :: r) = stCall R line r from (if_neg h1).trans (if_pos h2)]
    exact g.call
  by_cases h3 : k = ("end" : Str)
  · rw [show stIns it R line q (k :: r) = stEnd R line from ((if_neg h1).trans (if_neg h2)).trans (if_pos h3)]
    exact g.endL
  by_cases h4 : k = ("or" : Str)
  · rw [show stIns it R line q (k :: r) = stOr R line q from (((if_neg h1).trans (if_neg h2)).trans (if_neg h3)).trans (if_pos h4)]
    exact g.orL
  by_cases h5 : k = ("leave" : Str)
  · rw [show stIns it R line q (k :: r) = stLeave R line from ((((if_neg h1).trans (if_neg h2)).trans (if_neg h3)).trans (if_neg h4)).trans (if_pos h5)]
    exact g.leave
  by_cases h6 : k ∈ (["either", "loop", "ever"] : List Str)
  · rw [show stIns it R line q (k :: r) = stBlock R k line q from (((((if_neg h1).trans (if_neg h2)).trans (if_neg h3)).trans (if_neg h4)).trans (if_neg h5)).trans (if_pos h6)]
    exact g.block
  · rw [show stIns it R line q (k :: r) = R from (((((if_neg h1).trans (if_neg h2)).trans (if_neg h3)).trans (if_neg h4)).trans (if_neg h5)).trans (if_neg h6)]
    exact g.to
theorem Gd.step {nm pr : Str → Bool} {val : Str → Int} {it : Str → Option (Str × Str)} {q : Addr} {ws : List Str} (g : Gd n line R) (h : okLine nm pr val it R line ws = true) : Gd (n + 1) (line + 1) (stLine nm pr val it R line q ws) := by
  match ws, h with
  | [], h => cases h
  | w0 :: r, h =>
    by_cases h1 : w0 = ("mode" : Str)
    · rw [show stLine nm pr val it R line q (w0 :: r) = stMode nm pr val (noteK R line w0) q (w0 :: r) from if_pos h1]
      exact (g.note w0).mode ((if_pos h1 : okLine nm pr val it R line (w0 :: r) = _).symm.trans h)
    by_cases h2 : w0 = ("start" : Str)
    · rw [show stLine nm pr val it R line q (w0 :: r) = stStart (noteK R line w0) (w0 :: r) from (if_neg h1).trans (if_pos h2)]
      exact (g.note w0).start
    by_cases h3 : w0 = ("proc" : Str)
    · rw [show stLine nm pr val it R line q (w0 :: r) = stProc (noteK R line w0) line (w0 :: r) from ((if_neg h1).trans (if_neg h2)).trans (if_pos h3)]
      exact (g.note w0).proc
    cases ho : R.owner with
    | none =>
      have es : stLine nm pr val it R line q (w0 :: r) = R := (((if_neg h1).trans (if_neg h2)).trans (if_neg h3)).trans (by rw [ho])
      rw [es]
      exact g.mono (Nat.le_succ _) (by omega)
    | some o =>
      have es : stLine nm pr val it R line q (w0 :: r) = stIns it { noteK R line w0 with owners := putG R.owners line o } line q (w0 :: r) := (((if_neg h1).trans (if_neg h2)).trans (if_neg h3)).trans (by rw [ho])
      rw [es]
      exact (g.noteO w0 o).ins
end
theorem Gd.sm {n : Nat} {line : Int} {R : RdM} (g : Gd n line R) (h : n < 400) : Sm R := by
  obtain ⟨l0, l1, l2, l3, l4, l5, l6, l7, l8, l9, l10, l11, mo, os, bt, bl⟩ := g
  exact ⟨by omega, by omega, by omega, by omega, by omega, by omega, by omega, by omega, by omega, by omega, by omega, by omega⟩
theorem Gd.sm2 {n : Nat} {line : Int} {R : RdM} (g : Gd n line R) (h : n < 400) : Sm2 R := ⟨fun x hx => by have := g.mo x hx; omega, fun x hx => by have := g.os x hx; omega⟩
/-! ### a text's rows are read one by one -/
/-- what is to be shown of the rows from the present line on: Bad of the first wrong line's number, or Fin of the tables at the end -/
def RunW (nm pr : Str → Bool) (val : Str → Int) (it : Str → Option (Str × Str)) (wd : Str → List Str) (Fin : RdM → Prop) (Bad : Int → Prop) : List Str → RdM → Int → Prop
  | [], R, _ => Fin R
  | row :: rows, R, line => (wd row = [] → RunW nm pr val it wd Fin Bad rows R (line + 1)) ∧ (wd row ≠ [] → (okLine nm pr val it R line (wd row) = false → Bad line) ∧ (okLine nm pr val it R line (wd row) = true → ∀ q, RunW nm pr val it wd Fin Bad rows (stLine nm pr val it R line q (wd row)) (line + 1)))
theorem x_ienumS {K : PySem.W.Frag} {c : Int} {te : TE} {σ : L2.St} {H : Hp} {R : It → Hp → Prop} (h : tCons te tNil σ H fun vs H1 => ∃ (a : Addr) (xs : List V), vs = [V.ref a] ∧ SqL K H1 a xs ∧ R (IteS K a c) H1) : iEnumS K c (tCons te tNil) σ H R := h
theorem Same.fro {H H1 H2 : Hp} {p : Addr} {ad : Nat → Addr} (s : Same H H1) (f : Fro p ad H1 H2) (hp : H p = none) (ha : ∀ j, j < 12 → H (ad j) = none) : Same H H2 := fun b o e =>
  f b o (s b o e) (fun z => by rw [z, hp] at e; cases e) fun j hj z => by rw [z, ha j hj] at e; cases e
theorem x_ivals {td : TE} {σ : L2.St} {H : Hp} {R : It → Hp → Prop} (h : td σ H fun x H1 => ∃ (d : Addr) (o : Obj) (kvs : List (Key × V)), x = V.ref d ∧ H1 d = some (.frz o (.dK kvs)) ∧ R (Itd d o kvs) H1) : iVals td σ H R := h
theorem r_rdO {K : PySem.W.Frag} {C dx : Addr} {H : Hp} {p : Addr} {ad : Nat → Addr} {o : Option Str} {f : Str} {v : V} {Q : VK} (e : H p = some (.ins C dx (rflds ad o))) (T : RdTxt K C) (hm : f ∈ rall) (hl : (rflds ad o).lookup f = some v) (h : Q v H) : rFld K f (.ref p) H Q :=
  ⟨p, C, dx, _, v, rfl, e, T.cl, T.na f hm, hl, h⟩
/-- behind a lock all is as it was, and the new list stands -/
theorem same_lock {H : Hp} {d D : Addr} {u w : HO} {od : Obj} (e : H d = some u) (hD : upd H d (.frz od u) D = none) : Same H (upd (upd (upd H d (.frz od u)) D w) d u) ∧ upd (upd (upd H d (.frz od u)) D w) d u D = some w := by
  have hne : D ≠ d := fun z => by rw [z, upd_same] at hD; cases hD
  refine ⟨fun b o q => ?_, by rw [upd_ne hne]; exact upd_same⟩
  by_cases z : b = d
  · subst z
    rw [upd_same, ← q, e]
  · rw [upd_ne z, upd_ne (fun y => by rw [← y, upd_ne z, q] at hD; cases hD), upd_ne z]
    exact q
def missL (R : RdM) (l : List (Int × Str)) : List V := (l.filter fun x => !(look R.routines x.2).isSome).map fun x => V.str x.2
theorem miss_none {R : RdM} (h : (missL R R.calls).isEmpty = true) : ∀ x ∈ R.calls, (look R.routines x.2).isSome = true := by
  intro x hx
  unfold missL at h
  rw [List.isEmpty_map, List.isEmpty_iff, List.filter_eq_nil_iff] at h
  have := h x hx
  cases e : look R.routines x.2 with
  | none => rw [e] at this; exact absurd rfl this
  | some v => rfl
theorem miss_some {R : RdM} (h : (missL R R.calls).isEmpty = false) : ¬ ∀ x ∈ R.calls, (look R.routines x.2).isSome = true := by
  intro z
  unfold missL at h
  rw [List.isEmpty_map] at h
  have : (R.calls.filter fun x => !(look R.routines x.2).isSome) = [] := by
    rw [List.filter_eq_nil_iff]
    intro a ha
    rw [z a ha]
    decide
  rw [this] at h
  cases h
theorem missL_t {R : RdM} {l : List (Int × Str)} {i : Nat} {c : Int × Str} (h : l[i]? = some c) (hs : (look R.routines c.2).isSome = false) : missL R (l.take (i + 1)) = missL R (l.take i) ++ [V.str c.2] := by
  unfold missL
  rw [List.take_add_one, h, List.filter_append, List.map_append]
  show _ ++ (([c] : List (Int × Str)).filter _).map _ = _
  rw [List.filter_cons_of_pos (by rw [hs]; rfl)]
  rfl
theorem missL_f {R : RdM} {l : List (Int × Str)} {i : Nat} {c : Int × Str} (h : l[i]? = some c) (hs : (look R.routines c.2).isSome = true) : missL R (l.take (i + 1)) = missL R (l.take i) := by
  unfold missL
  rw [List.take_add_one, h, List.filter_append, List.map_append]
  show _ ++ (([c] : List (Int × Str)).filter _).map _ = _
  rw [List.filter_cons_of_neg (by rw [hs]; decide)]
  simp
theorem missL_len (R : RdM) (l : List (Int × Str)) : (missL R l).length ≤ l.length := by
  unfold missL
  rw [List.length_map]
  exact List.length_filter_le ..
end MP
end
section
namespace MP
open PySem PySem.Spec PyProof.Rows L2
/-! ### != of nested lists that are equal; an object is equal to itself -/
def LsR (K : PySem.W.Frag) (H : Hp) (F : V → V → Prop) (x y : V) : Prop := ∃ a b xs ys, x = .ref a ∧ y = .ref b ∧ SqL K H a xs ∧ SqL K H b ys ∧ Paired F xs ys
def EqW (K : PySem.W.Frag) (H : Hp) : Nat → V → V → Prop
  | 0 => fun _ _ => False
  | n + 1 => fun x y => (x = y ∧ flatB x = true) ∨ (∃ a, x = .ref a ∧ y = .ref a) ∨ LsR K H (EqW K H n) x y
theorem items_at {A : Around} {s : Shared} {F : V → V → Prop} (ih : ∀ x y v u, F x y → RelV x v → RelV y u → SeqAt.EqAt A s v u true) {xs ys : List V} (hp : Paired F xs ys) :
    ∀ {us ws : List Value}, Vals xs us → Vals ys ws → ∀ j (h1 : j < us.length) (h2 : j < ws.length), SeqAt.EqAt A s us[j] ws[j] true := by
  induction hp with
  | nil =>
    intro us ws r1 r2 j h1 h2
    cases r1
    exact absurd h1 (Nat.not_lt_zero j)
  | cons h _ k =>
    intro us ws r1 r2 j h1 h2
    cases r1 with
    | cons a1 b1 =>
      cases r2 with
      | cons a2 b2 =>
        cases j with
        | zero => exact ih _ _ _ _ h a1 a2
        | succ j => exact k b1 b2 j (Nat.lt_of_succ_lt_succ h1) (Nat.lt_of_succ_lt_succ h2)
section
variable {X : Cx} {pins : List (Addr × Obj)} {σ : L2.St} {H : Hp} {s : Shared}
theorem lists_of (I : Inv X pins σ H s) {A : Around} {F : V → V → Prop} (ih : ∀ x y v u, F x y → RelV x v → RelV y u → SeqAt.EqAt A.in1 s v u true) {a b : Addr} {xs ys : List V} (ha : SqL X.K H a xs) (hb : SqL X.K H b ys) (hp : Paired F xs ys) :
    ∃ us ws : Array Value, s.heap.IsList a us ∧ s.heap.IsList b ws ∧ us.size = ws.size ∧ ∀ j (h1 : j < us.size) (h2 : j < ws.size), SeqAt.EqAt A.in1 s us[j] ws[j] ((fun _ => true) j) := by
  obtain ⟨us, r1, p1, _⟩ := I.list ha
  obtain ⟨ws, r2, p2, _⟩ := I.list hb
  refine ⟨us.toArray, ws.toArray, p1.isList, p2.isList, ?_, fun j h1 h2 => ?_⟩
  · rw [List.size_toArray, List.size_toArray, ← r1.length, ← r2.length]
    exact Paired.length hp
  · have k := items_at ih hp r1 r2 j (by simpa using h1) (by simpa using h2)
    simpa using k
theorem all_t (n : Nat) : ((List.range n).all fun _ => true) = true := List.all_eq_true.mpr fun _ _ => rfl
theorem eqW_run (I : Inv X pins σ H s) : ∀ (n : Nat) (A : Around), A.units + n < cLine → ∀ (x y : V) (v u : Value), EqW X.K H n x y → RelV x v → RelV y u → SeqAt.EqAt A s v u true
  | 0, _, _, _, _, _, _, h, _, _ => (show False from h).elim
  | n + 1, A, hu, x, y, v, u, h, rx, ry => by
    rcases h with ⟨rfl, f⟩ | ⟨a, rfl, rfl⟩ | ⟨a, b, xs, ys, rfl, rfl, ha, hb, hp⟩
    · exact eqAt_same rx ry f
    · cases (show v = Value.ref a from rx)
      cases (show u = Value.ref a from ry)
      exact SeqAt.EqAt.same _
    · obtain ⟨us, ws, l1, l2, hz, he⟩ := lists_of I (A := A) (eqW_run I n A.in1 (by show A.units + 1 + n < cLine; omega)) ha hb hp
      cases (show v = Value.ref a from rx)
      cases (show u = Value.ref b from ry)
      by_cases e : a = b
      · subst e
        exact SeqAt.EqAt.same _
      · have q := SeqAt.RcAt.lists l1 l2 hz (by omega) he
        rw [all_t] at q
        exact SeqAt.EqAt.of_refs e q
end
/-- x != y, two lists that are equal -/
def rNeW (K : PySem.W.Frag) : R2 := fun x y H Q => ∃ n, n ≤ 60 ∧ LsR K H (EqW K H n) x y ∧ Q (.bl false) H
theorem op_neW {X : Cx} (hu : X.A.units + 64 < cLine) : OpR X (compareOp .NotEq) (rNeW X.K) := by
  intro pins s σ H x y v u Q I rx ry h
  obtain ⟨n, hn, ⟨a, b, xs, ys, rfl, rfl, ha, hb, hp⟩, q⟩ := h
  obtain ⟨us, ws, l1, l2, hz, he⟩ := lists_of I (A := X.A) (eqW_run I n X.A.in1 (by show X.A.units + 1 + n < cLine; omega)) ha hb hp
  cases (show v = Value.ref a from rx)
  cases (show u = Value.ref b from ry)
  have z := SeqAt.RcNeAt.lists l1 l2 hz (by omega) he
  rw [all_t] at z
  exact z _ _ _ _ ⟨.bl false, H, I, rfl, q⟩
/-- a list != an empty one -/
def rNeE (K : PySem.W.Frag) : R2 := fun x y H Q => ∃ a b xs, x = .ref a ∧ y = .ref b ∧ SqL K H a xs ∧ H b = some (.lst []) ∧ Q (.bl (!xs.isEmpty)) H
theorem op_neE {X : Cx} (hu : X.A.units + 64 < cLine) : OpR X (compareOp .NotEq) (rNeE X.K) := by
  intro pins s σ H x y v u Q I rx ry h
  obtain ⟨a, b, xs, rfl, rfl, ha, hb, q⟩ := h
  obtain ⟨us, r1, p1, _⟩ := I.list ha
  obtain ⟨ws, r2, p2, _⟩ := I.list (SqL.of (K := X.K) hb)
  cases (show v = Value.ref a from rx)
  cases (show u = Value.ref b from ry)
  cases r2
  have hl := r1.length
  by_cases e : xs = []
  · subst e
    cases r1
    have z := SeqAt.RcNeAt.lists (A := X.A) (e := fun _ => true) p1.isList p2.isList rfl (by omega) (fun j h1 _ => absurd h1 (Nat.not_lt_zero j))
    rw [all_t] at z
    exact z _ _ _ _ ⟨.bl false, H, I, rfl, q⟩
  · have hne : us.length ≠ 0 := fun z => e (List.eq_nil_of_length_eq_zero (by omega))
    have z := SeqAt.RcNeAt.lists_lengths (A := X.A) p1.isList p2.isList (by simpa using hne) (by omega)
    have e2 : (!xs.isEmpty) = true := by
      cases xs with
      | nil => exact absurd rfl e
      | cons _ _ => rfl
    rw [e2] at q
    exact z _ _ _ _ ⟨.bl true, H, I, rfl, q⟩
theorem x_neE {K : PySem.W.Frag} {a b : Addr} {xs : List V} {H : Hp} {Q : VK} (h1 : SqL K H a xs) (h2 : H b = some (.lst [])) (h : Q (.bl (!xs.isEmpty)) H) : rNeE K (.ref a) (.ref b) H Q := ⟨a, b, xs, rfl, rfl, h1, h2, h⟩
def rTup (K : PySem.W.Frag) : List V → Hp → VK → Prop := fun xs H Q => ∃ p ys, xs = [.ref p] ∧ ((SqL K H p ys ∧ ∀ l, H l = none → Q (.ref l) (upd H l (.tup ys))) ∨ (SqT K H p ys ∧ Q (.ref p) H))
theorem call_tuple_K {X : Cx} {K : PySem.W.Frag} (hk : X.K = K) : CallR X (.type "tuple") (rTup K) := hk ▸ call_tuple_of
theorem x_tupL {K : PySem.W.Frag} {p : Addr} {ys : List V} {H : Hp} {Q : VK} (h : SqL K H p ys) (q : ∀ l, H l = none → Q (.ref l) (upd H l (.tup ys))) : rTup K [.ref p] H Q := ⟨p, ys, rfl, .inl ⟨h, q⟩⟩
/-! ### a class of the module that is called -/
structure CalM (P : Program) (w : World) (K : PySem.W.Frag) (mg : Str → Option Value) (base : Heap) (k : Nat) (x : Str) (C : Addr) (sp : Sp) : Prop where
  ex : ∃ (f : Addr) (fd : FuncData) (ps : List Str), Mk K C f ∧ FnOk P w K mg base (L2.CX P w) k f fd ps sp ∧ mg x = some (.ref C) ∧ Binds K fd ps []
theorem pe_cm {X : Cx} {k j : Nat} {x : Str} {C : Addr} {sp : Sp} {p pos : Pos} {e : Expr} {es : List Expr} {t : TA} (c : CalM X.prog X.w X.K X.mg X.base k x C sp) (hr : Room j X.A) (hk : k + 1 ≤ j) (hg : Gl X x) (ha : PA X (e :: es) t)
    (hdb : (x == ("__debug__" : Str)) = false := by decide) (he : starEach (e :: es) X.env = (false, eval e X.env) :: starEach es X.env := by rfl) (hpl : (backTo pos (starEach es X.env)).any (·.1) = false := by rfl) :
    PE X (.Call (.Name x p) (e :: es) [] pos) (tMake C sp [] E0 t) := by
  obtain ⟨f, fd, ps, M, F, hm, b⟩ := c.ex
  exact pe_make M F (hr.mono hk) hg hm b .nil passL ha hdb he hpl
theorem pe_cm0 {X : Cx} {k j : Nat} {x : Str} {C : Addr} {sp : Sp} {p pos : Pos} (c : CalM X.prog X.w X.K X.mg X.base k x C sp) (hr : Room j X.A) (hk : k + 1 ≤ j) (hg : Gl X x) (hdb : (x == ("__debug__" : Str)) = false := by decide) : PE X (.Call (.Name x p) [] [] pos) (tMake C sp [] E0 tNil) := by
  obtain ⟨f, fd, ps, M, F, hm, b⟩ := c.ex
  exact pe_make0 M F (hr.mono hk) hg hm b .nil passL hdb
theorem pe_fldK {X : Cx} {K : PySem.W.Frag} (hk : X.K = K) {e : Expr} {f : Str} {ta : TE} {pos : Pos} (he : PE X e ta) (hb : attributeBase e f X.env (eval e X.env) = eval e X.env) : PE X (.Attribute e f pos) (tFld K ta f) := hk ▸ pe_fld he hb
end MP
end
section
open PySem L2 MPX MP
local macro_rules | `(tactic| walk_at "rd1") => `(tactic| first
  | with_reducible refine x_seq ?_
  | with_reducible refine x_next ?_
  | with_reducible refine x_ret ?_
  | with_reducible refine x_retN ?_
  | with_reducible refine x_ifs ?_
  | with_reducible refine x_asg ?_
  | with_reducible refine x_drop ?_
  | with_reducible refine x_name ?_
  | ((with_reducible refine' x_var ?vv ?_); (case vv => exact rfl))
  | with_reducible refine x_c ?_
  | with_reducible refine x_op ?_
  | with_reducible refine x_un ?_
  | with_reducible refine x_test ?_
  | with_reducible refine x_tB ?_
  | with_reducible refine x_and ?_
  | with_reducible refine x_or ?_
  | with_reducible refine x_not ?_
  | with_reducible refine x_andV ?_
  | with_reducible refine x_orV ?_
  | with_reducible refine x_notV ?_
  | with_reducible refine x_if ?_
  | with_reducible refine x_nil ?_
  | with_reducible refine x_cons ?_
  | with_reducible refine x_tup ?_
  | with_reducible refine x_lst ?_
  | with_reducible refine x_cb ?_
  | with_reducible refine x_call ?_
  | with_reducible refine x_callS ?_
  | with_reducible refine x_callP ?_
  | with_reducible refine x_mk0 ?_
  | with_reducible refine x_mk1 ?_
  | with_reducible refine x_mk2 ?_
  | with_reducible refine x_make ?_
  | with_reducible refine x_sfld ?_
  | with_reducible refine x_din ?_
  | with_reducible refine x_dnin ?_
  | with_reducible refine x_fldS ?_
  | with_reducible refine x_sl3 ?_
  | ((with_reducible refine' r_rd ?vr ?vt ?vm ?vl ?vq); (case vr => (with_reducible assumption)); (case vt => assumption); (case vm => decide +kernel); (case vl => exact rfl))
  | with_reducible refine x_m0 ?_
  | with_reducible refine x_m1 ?_
  | with_reducible refine x_bm0 ?_
  | with_reducible refine x_bm ?_
  | with_reducible refine x_par ?_
  | with_reducible refine x_ilist ?_
  | with_reducible refine x_itup ?_
  | with_reducible refine x_istr ?_
  | ((with_reducible show tLc _ _ _ _ _ _ _ _); unfold tLc)
  | ((with_reducible show tFor _ _ _ _ _ _); unfold tFor)
  | ((with_reducible refine' x_eq ?vv ?_); (case vv => exact rfl))
  | ((with_reducible refine' x_ne ?vv ?_); (case vv => exact rfl))
  | with_reducible refine x_rI0 ?_
  | with_reducible refine x_dgetR ?_
  | with_reducible refine x_dputR ?_
  | with_reducible refine x_dnew ?_
  | with_reducible refine x_dget1 ?_
  | with_reducible refine x_dget2 ?_
  | with_reducible refine x_sl ?_
  | with_reducible refine x_nopart ?_
  | with_reducible refine x_part ?_
  | ((with_reducible refine' x_slL ?vv ?_); (case vv => (with_reducible assumption)))
  | with_reducible refine x_disp ?_
  | with_reducible refine x_pcons ?_
  | with_reducible refine x_pnil ?_
  | ((with_reducible refine' x_mod ?vv ?_); (case vv => omega); intro r er hr0 hr1; (try clear er))
  | ((with_reducible refine' x_rI ?vv ?_); (case vv => walk_at "sc"))
  | (with_reducible refine Or.inl (Exists.intro _ (And.intro rfl ?_)))
  | with_reducible refine x_T ?_
  | with_reducible refine x_F ?_
  | ((with_reducible show Exists (α := V) _); (with_reducible apply Exists.intro))
  | ((with_reducible show Exists (α := Bool) _); (with_reducible apply Exists.intro))
  | ((with_reducible show Exists (α := Nat) _); (with_reducible apply Exists.intro))
  | ((with_reducible show Exists (α := Int) _); (with_reducible apply Exists.intro))
  | ((with_reducible show Exists (α := List V) _); (with_reducible apply Exists.intro))
  | ((with_reducible show Exists (α := PySem.Str) _); (with_reducible apply Exists.intro))
  | ((with_reducible show Exists (α := Option V) _); (with_reducible apply Exists.intro))
  | ((with_reducible show Exists (α := Option Int) _); (with_reducible apply Exists.intro))
  | ((with_reducible show Exists (α := List (Key × V)) _); (with_reducible apply Exists.intro))
  | refine And.intro rfl ?_
  | ((with_reducible refine And.intro ?vv ?_); (case vv => (first | (with_reducible assumption) | (show _ ≤ sizeLine; decide) | exact len_ok rfl)))
  | (refine And.intro (Exists.intro _ rfl) ?_))
local macro_rules | `(tactic| walk_at "sc") => `(tactic| first
  | (with_reducible assumption)
  | exact divW (by omega) (by omega)
  | exact mulW (by omega) (by omega)
  | exact Or.inl ⟨by omega, by omega⟩
  | exact Or.inr ⟨by omega, by omega⟩
  | (show (_ : Int) ≠ 0; omega)
  | exact ⟨by decide, by decide, by decide⟩
  | decide)
local macro_rules | `(tactic| walk_at "rd") => `(tactic| repeat walk_at "rd1")
namespace MP
open PySem L2
section
variable {P : Program} {w : World} {K : PySem.W.Frag} {mg : Str → Option Value} {base : Heap} {ts : Nat → Tok} {kw C CB CT : Addr}
structure TextTxt (P : Program) (K : PySem.W.Frag) (mg : Str → Option Value) (ts : Nat → Tok) (C CB CT : Addr) : Prop extends ReadTxt K mg ts C where
  e_BadText : Exc1 P K mg "BadText" CB "line"
  e_TooMany : Exc1 P K mg "TooMany" CT "what"
/-- all is told, at the end of a text -/
def endOk (R : RdM) : Prop := R.owner = none ∧ (look R.routines ("main" : Str)).isSome = true ∧ ∀ x ∈ R.calls, (look R.routines x.2).isSome = true
def ErrD (C : Addr) (f : Str) (v : V) (H : Hp) (E : XK) : Prop := ∀ d H', Same H H' → H' d = some (.xd [(f, v)]) → E (.ref C) (some d) H'
def sp_read_text (C CB CT : Addr) : Sp := fun vs H Q E => ∃ (z : Str), vs = [.str z] ∧ z.length + 2 ≤ sizeLine ∧ (6000 < z.length → ErrD CT "what" (.str "characters") H E) ∧ (z.length ≤ 6000 → 120 < (PySem.Txt.split z "\n").length → ErrD CT "what" (.str "lines") H E) ∧
  (z.length ≤ 6000 → (PySem.Txt.split z "\n").length ≤ 120 → RunW isName isPrice priceOf itemOf wordsOf
    (fun R => (endOk R → Sm R → Sm2 R → ∀ p ad H', Same H H' → RdAt C H' p ad R → Q (.ref p) H') ∧ (¬ endOk R → ErrD CB "line" (.int ((PySem.Txt.split z "\n").length + 1)) H E)) (fun line => ErrD CB "line" (.int line) H E) (PySem.Txt.split z "\n") RdM.empty 1)
theorem ok_read_text {f : Addr} {fd : FuncData} (F : Fun K "read_text" "read_text" s_read_text f fd) (T : TextTxt P K mg ts C CB CT) (c_words_of : Cal P w K mg base 1 "words_of" sp_words_of) (c_read_line : Cal P w K mg base 6 "read_line" (sp_read_line K C)) (c_Reading : CalM P w K mg base 1 "Reading" C (sp_init C)) : FnOk P w K mg base (L2.CX P w) 7 f fd P_read_text (sp_read_text C CB CT) := by
  refine F.okX sc_read_text (fun vs H Q E h => ?_) (fun cdv A outer s H vs Q E hr h => ?_)
  · obtain ⟨z, rfl, _⟩ := h
    rfl
  · obtain ⟨z, rfl, hz, kc, kl, kr⟩ := h
    have hu := hu_of hr
    have Tr := T.rd
    refine ⟨_, (pss_cons (ps_if (pt_cmpR op_gt (pe_callB call_len_str (by rfl) T.b_len (by decide +kernel) (pa_cons (pv 0) pa_nil)) (pe_glob (v := V.int _) rfl T.g_MOST_CHARACTERS ⟨_, rfl⟩) (nomark _)) (pss_one (ps_raise rfl (takes_of rfl rfl rfl rfl) (pmk_x1 T.e_TooMany hr (pa_cons pe_str pa_nil) rfl))) pss_nil)
      (pss_cons (ps_set (i := 1) sc_read_text.nd rfl (Or.inl rfl) (pe_split (pv 0) pe_str))
      (pss_cons (ps_if (pt_cmpR op_gt (pe_callB call_len_seq (by rfl) T.b_len (by decide +kernel) (pa_cons (pv 1) pa_nil)) (pe_glob (v := V.int _) rfl T.g_MOST_LINES ⟨_, rfl⟩) (nomark _)) (pss_one (ps_raise rfl (takes_of rfl rfl rfl rfl) (pmk_x1 T.e_TooMany hr (pa_cons pe_str pa_nil) rfl))) pss_nil)
      (pss_cons (ps_set (i := 2) sc_read_text.nd rfl (Or.inr rfl) (pe_cm0 c_Reading hr (by decide) rfl))
      (pss_cons (ps_for (passes_of rfl) rfl (pi_enumS (by rfl) T.b_enumerate (pa_cons (pv 1) pa_nil) (by decide) (by decide) (by decide)) (pg_tup rfl (pgs_cons (pg_name (i := 3) sc_read_text.nd rfl (Or.inl rfl)) (pgs_cons (pg_name (i := 4) sc_read_text.nd rfl (Or.inl rfl)) pgs_nil)))
      (pss_cons (ps_set (i := 5) sc_read_text.nd rfl (Or.inl rfl) (pe_cc c_words_of hr (by decide) rfl (pa_cons (pv 4) pa_nil)))
      (pss_one (ps_if (PW.pt (pw_and (pt_cmpR (op_neE hr.units) (pv 5) (pe_lst pa_nil) (nomark _)) (pw_and1 (pt_not (pt_val (pe_cc c_read_line hr (by decide) rfl (pa_cons (pv 2) (pa_cons (pv 5) (pa_cons (pv 3) pa_nil))))))))) (pss_one (ps_raise rfl (takes_of rfl rfl rfl rfl) (pmk_x1 T.e_BadText hr (pa_cons (pv 3) pa_nil) rfl))) pss_nil))))
      (pss_cons (ps_lock (ps_setLc (i := 6) (own := [("name", 7)]) (g := gName 7) rfl sc_read_text.nd rfl rfl (sw_true rfl rfl rfl (by decide +kernel)) (pi_values (pe_fld (pv 2) rfl)) (blkOk_by (own := [("name", 7)]) (N := N_read_text) (sc := defScope s_read_text) (by decide +kernel)) (fun _ _ _ _ _ => (pg_name (i := 7) sc_read_text.nd rfl (Or.inl rfl))) (fun _ _ _ _ _ => (pts_one (pt_cmp (pc_dnotin hu (pv 7) (pe_fldK (rfl : _ = K) (pv 2) rfl))))) (fun _ _ _ _ _ => (pv 7))))
      (pss_cons (ps_if (PW.pt (pw_or (pt_cmpR op_notN (pe_fld (pv 2) rfl) pe_non (nomark _)) (pw_or (pt_cmp (pc_dnotin hu pe_str (pe_fld (pv 2) rfl))) (pw_or1 (pt_cmpR (op_neE hr.units) (pv 6) (pe_lst pa_nil) (nomark _)))))) (pss_one (ps_raise rfl (takes_of rfl rfl rfl rfl) (pmk_x1 T.e_BadText hr (pa_cons (pe_op op_add (pe_callB call_len_seq (by rfl) T.b_len (by decide +kernel) (pa_cons (pv 1) pa_nil)) pe_int) pa_nil) rfl))) pss_nil)
      (pss_one (ps_ret (pv 2)))))))))), ?_⟩
    show tSeq _ _ _ [some (V.str z), none, none, none, none, none, none, none] H
    walk_at "rd"
    refine ⟨by omega, ?_⟩
    walk_at "rd"
    refine x_D (fun h1 => ?_) (fun h1 => ?_)
    · walk_at "rd"
      intro d nd
      exact kc (by omega) d _ (same_upd nd) upd_same
    have h1' : z.length ≤ 6000 := by omega
    walk_at "rd"
    intro lp nlp
    generalize eH : upd H lp _ = H1
    have s1 : Same H H1 := eH ▸ same_upd nlp
    have e1 : H1 lp = some (.lst ((PySem.Txt.split z "\n").map V.str)) := eH ▸ upd_same
    clear eH
    have hrl : ∀ row ∈ PySem.Txt.split z "\n", row.length ≤ 6000 := fun row hm => Nat.le_trans (split_le (by decide +kernel) (by decide +kernel) hm) h1'
    generalize PySem.Txt.split z "\n" = rows at e1 kl kr hrl ⊢
    walk_at "rd"
    refine ⟨Or.inl (SqL.of e1), ?_⟩
    walk_at "rd"
    rw [List.length_map]
    refine x_D (fun h2 => ?_) (fun h2 => ?_)
    · walk_at "rd"
      intro d nd
      exact kl h1' (by omega) d _ (s1.trans (same_upd nd)) upd_same
    replace kr := kr h1' (by omega)
    have h120 : rows.length ≤ 120 := by omega
    clear kc kl
    walk_at "rd"
    intro p dx np ndx nex
    have np' : ∀ o, upd H1 dx o p = none := fun o => by rw [upd_ne (Ne.symm nex)]; exact np
    have s2 : ∀ o o', Same H1 (upd (upd H1 dx o) p o') := fun o o' => (same_upd ndx).trans (same_upd (np' o))
    refine ⟨p, dx, rfl, upd_same, fun ad H2 r hn hfr => ⟨rfl, ?_⟩⟩
    have s12 : Same H1 H2 := fun b o e => hfr _ _ (s2 _ _ _ _ e) (ne_of_none e np)
    have had : ∀ j, j < 12 → H1 (ad j) = none := fun j hj => by
      have h := hn j hj
      by_cases z1 : ad j = p
      · exact absurd z1.symm (r.np j hj)
      rw [upd_ne z1] at h
      by_cases z2 : ad j = dx
      · rw [z2, upd_same] at h; cases h
      · rw [upd_ne z2] at h; exact h
    walk_at "rd"
    have hs12 := s1.trans s12
    refine x_ienumS ?_
    walk_at "rd"
    refine ⟨SqL.of (s12 _ _ e1), for_it (walk_enumS (xs := rows.map V.str)) (fun i σ H' => Hold (∃ (R : RdM) (x3 x4 x5 x6 x7 : Option V), σ = [some (V.str z), some (V.ref lp), some (V.ref p), x3, x4, x5, x6, x7] ∧ RdAt C H' p ad R ∧ Gd i ((i : Int) + 1) R ∧
        RunW isName isPrice priceOf itemOf wordsOf (fun R => (endOk R → Sm R → Sm2 R → ∀ p ad H', Same H H' → RdAt C H' p ad R → Q (.ref p) H') ∧ (¬ endOk R → ErrD CB "line" (.int (rows.length + 1)) H E)) (fun line => ErrD CB "line" (.int line) H E) (rows.drop i) R ((i : Int) + 1) ∧ Same H1 H'))
      ⟨RdM.empty, none, none, none, none, none, rfl, r, Gd.start 0 _, (by rw [show (((0 : Nat) : Int) + 1) = 1 from rfl]; exact kr), s12⟩ (fun i σ H' _ ⟨_, _, _, _, _, _, _, _, _, _, s⟩ => SqL.of (s _ _ e1)) ?_ ?_⟩
    · clear kr r hfr hn
      rintro i v σ H' H'' hi ⟨R, x3, x4, x5, x6, x7, rfl, r, g, kr, s⟩ ⟨T1, vx, vy, rfl, nT, rfl, hx, hy⟩
      replace hx : some (V.int ((i : Nat) + 1)) = some vx := hx
      cases hx
      replace hy : (rows.map V.str)[i]? = some vy := hy
      rw [List.getElem?_map] at hy
      obtain ⟨row, hrow, rfl⟩ := Option.map_eq_some_iff.mp hy
      rw [drop_at hrow] at kr
      have hrm := List.mem_of_getElem? hrow
      have hrw := hrl row hrm
      have hil : i < rows.length := by rw [List.length_map] at hi; exact hi
      have sT : Same H' (upd H' T1 (.tup [V.int ((i : Nat) + 1), V.str row])) := same_upd nT
      refine x_gtup2 upd_same ?_
      walk_at "rd"
      refine ⟨row, rfl, by omega, fun wa H3 s3 n3 e3 => ?_⟩
      have rT := r.same sT
      have r3 := rT.same s3
      have s13 := (s.trans sT).trans s3
      walk_at "rd"
      intro el nel
      have s4 := same_upd (o := .lst []) nel
      have r4 := r3.same s4
      refine x_neE (SqL.of (s4 _ _ e3)) upd_same ?_
      rw [List.isEmpty_map]
      walk_at "rd"
      refine x_NB (fun h3 => ?_) (fun h3 => ?_)
      · obtain ⟨w0, r0, hw⟩ : ∃ a b, wordsOf row = a :: b := by
          cases e : wordsOf row with
          | nil => rw [e] at h3; cases h3
          | cons a b => exact ⟨a, b, rfl⟩
        have kr2 := kr.2 (by rw [hw]; exact fun z => by cases z)
        rw [hw] at kr2 e3
        have w1 : wa ≠ p := fun z => by
          obtain ⟨dx2, hob⟩ := rT.ob
          rw [← z, n3] at hob
          cases hob
        have w2 : (w0 :: r0).length < 10000 := by
          have h1 := split_len row " " (by decide +kernel) (by decide +kernel)
          have h2 : (wordsOf row).length ≤ (PySem.Txt.split row " ").length := List.length_filter_le _ _
          rw [hw] at h2
          omega
        have w3 : ∀ y ∈ w0 :: r0, y.length ≤ 10000 := fun y hy => by
          have hm : y ∈ wordsOf row := by rw [hw]; exact hy
          have hm2 : y ∈ PySem.Txt.split row " " := (List.mem_filter.mp hm).1
          have := split_le (x := row) (y := " ") (by decide +kernel) (by decide +kernel) hm2
          omega
        have wd : WdAt K (upd H3 el (.lst [])) p ad wa (w0 :: r0) := ⟨s4 _ _ e3, w1, rT.fresh n3, w2, w3⟩
        walk_at "rd"
        refine ⟨p, ad, R, wa, w0, r0, (i : Int) + 1, rfl, r4, g.sm (by omega), by have := g.l3; omega, by have := g.l4; omega, g.sm2 (by omega), g.bt, fun b hb => by have := g.bl b hb; omega, wd, fun hb H5 f5 => ?_, fun hb q H5 f5 r5 => ?_⟩
        · have S5 := MP.Same.fro (s13.trans s4) f5 np had
          walk_at "rd"
          refine x_cT rfl ?_
          walk_at "rd"
          intro d nd
          exact kr2.1 hb d _ ((s1.trans S5).trans (same_upd nd)) upd_same
        · have S5 := MP.Same.fro (s13.trans s4) f5 np had
          walk_at "rd"
          refine x_cF rfl ?_
          walk_at "rd"
          have el2 : ((i + 1 : Nat) : Int) + 1 = (i : Int) + 1 + 1 := by omega
          exact ⟨_, _, _, _, _, _, rfl, r5, el2 ▸ g.step hb, el2 ▸ kr2.2 hb q, S5⟩
      · walk_at "rd"
        have hw : wordsOf row = [] := List.isEmpty_iff.mp h3
        have el2 : ((i + 1 : Nat) : Int) + 1 = (i : Int) + 1 + 1 := by omega
        exact ⟨R, _, _, _, _, _, rfl, r4, el2 ▸ g.mono (Nat.le_succ _) (by omega), el2 ▸ kr.1 hw, s13.trans s4⟩
    · rintro σ H' ⟨R, x3, x4, x5, x6, x7, rfl, r, g, kr, s⟩
      walk_at "rd"
      rw [List.length_map, List.drop_of_length_le (Nat.le_refl _)] at kr
      obtain ⟨kF, kB⟩ := kr
      have hHH := s1.trans s
      have hc : R.calls.length < 1000 := (g.sm (by rw [List.length_map]; omega)).s7
      refine ⟨ad 7, .dK (kI V.str R.calls), r.t7, trivial, fun od => ?_⟩
      obtain ⟨dx2, hob⟩ := r.ob
      have hobL : upd H' (ad 7) (.frz od (.dK (kI V.str R.calls))) p = some (.ins C dx2 (rflds ad R.owner)) := by rw [upd_ne (r.np 7 (by decide))]; exact hob
      have hrtL : upd H' (ad 7) (.frz od (.dK (kI V.str R.calls))) (ad 2) = some (.dK (kS V.int R.routines)) := by rw [upd_ne (fun z => absurd (r.inj 2 7 (by decide) (by decide) z) (by decide))]; exact r.t2
      walk_at "rd"
      refine x_ivals ?_
      walk_at "rd"
      refine r_rdO hobL T.rd (by decide +kernel) rfl ?_
      refine ⟨ad 7, od, _, rfl, upd_same, fun D hD => ?_⟩
      have hD7 : D ≠ ad 7 := fun z => by rw [z, upd_same] at hD; cases hD
      refine lc_it walk_values (fun i H3 => Hold (H3 = upd (upd H' (ad 7) (.frz od (.dK (kI V.str R.calls)))) D (.lst (missL R (R.calls.take i))))) ⟨rfl⟩ (fun i H3 _ ⟨e⟩ => by rw [e, upd_ne (Ne.symm hD7)]; exact upd_same) ?_ ?_
      · rintro i v H3 H4 hi ⟨rfl⟩ ⟨rfl, k2, hk2⟩
        unfold kI at hk2
        rw [List.getElem?_map] at hk2
        obtain ⟨cc, hcc, e2⟩ := Option.map_eq_some_iff.mp hk2
        cases e2
        have hDp : p ≠ D := fun z => by rw [← z, hobL] at hD; cases hD
        have hD2 : ad 2 ≠ D := fun z => by rw [← z, hrtL] at hD; cases hD
        walk_at "rd"
        refine r_rdO (by rw [upd_ne hDp]; exact hobL) T.rd (by decide +kernel) rfl ?_
        refine r_dninS (by rw [upd_ne hD2]; exact hrtL) ?_
        walk_at "rd"
        refine x_NB (fun h5 => ?_) (fun h5 => ?_)
        · walk_at "rd"
          refine ⟨upd_same, ?_, ⟨?_⟩⟩
          · have := missL_len R (R.calls.take i)
            rw [List.length_take] at this
            have := big5
            omega
          · rw [upd_upd, missL_t hcc h5]
        · exact ⟨by rw [missL_f hcc h5]⟩
      · rintro H3 ⟨rfl⟩
        rw [kI_len, List.take_length]
        walk_at "rd"
        refine ⟨by rw [upd_ne (Ne.symm hD7)]; exact upd_same, ?_⟩
        obtain ⟨sL, eD⟩ := same_lock (w := .lst (missL R R.calls)) r.t7 hD
        generalize upd (upd (upd H' (ad 7) _) D _) (ad 7) _ = H6 at sL eD ⊢
        replace r := r.same sL
        walk_at "rd"
        refine x_ND (fun h6 => ?_) (fun h6 => ?_)
        · walk_at "rd"
          refine ⟨Or.inl (SqL.of (sL _ _ (s _ _ e1))), ?_⟩
          walk_at "rd"
          intro d nd
          exact kB (fun z => h6 (own_non.mpr z.1)) d _ ((hHH.trans sL).trans (same_upd nd)) (by rw [upd_same, List.length_map])
        have ho : R.owner = none := own_non.mp h6
        walk_at "rd"
        refine r_dninS r.t2 ?_
        walk_at "rd"
        refine x_NB (fun h7 => ?_) (fun h7 => ?_)
        · walk_at "rd"
          refine ⟨Or.inl (SqL.of (sL _ _ (s _ _ e1))), ?_⟩
          walk_at "rd"
          intro d nd
          exact kB (fun z => by rw [z.2.1] at h7; cases h7) d _ ((hHH.trans sL).trans (same_upd nd)) (by rw [upd_same, List.length_map])
        walk_at "rd"
        intro el nel
        have s7 := same_upd (o := .lst []) nel
        replace r := r.same s7
        refine x_neE (SqL.of (s7 _ _ eD)) upd_same ?_
        replace sL := sL.trans s7
        walk_at "rd"
        refine x_NB (fun h8 => ?_) (fun h8 => ?_)
        · walk_at "rd"
          refine ⟨Or.inl (SqL.of (sL _ _ (s _ _ e1))), ?_⟩
          walk_at "rd"
          intro d nd
          exact kB (fun z => miss_some h8 z.2.2) d _ ((hHH.trans sL).trans (same_upd nd)) (by rw [upd_same, List.length_map])
        walk_at "rd"
        exact kF ⟨ho, h7, miss_none h8⟩ (g.sm (by rw [List.length_map]; omega)) (g.sm2 (by rw [List.length_map]; omega)) p ad _ (hHH.trans sL) r
end
end MP
end
section
namespace MP
open PySem L2
/-! ### a program that was read -/
def pflds (ad : Nat → Addr) (z : Str) (mo pr bh fh : Addr) : List (Str × V) := [("text", .str z), ("modes", .ref mo), ("procedures", .ref pr), ("prices", .ref (ad 0)), ("begins", .ref (ad 1)), ("kinds", .ref (ad 3)), ("owners", .ref (ad 4)), ("partners", .ref (ad 5)), ("ors", .ref (ad 6)), ("calls", .ref (ad 7)), ("leaves", .ref (ad 8)), ("works", .ref (ad 9)), ("ends", .ref (ad 10)), ("behinds", .ref bh), ("firsts", .ref fh)]
def pall : List Str := ["text", "modes", "procedures", "prices", "begins", "kinds", "owners", "partners", "ors", "calls", "leaves", "works", "ends", "behinds", "firsts"]
structure PrgTxt (K : PySem.W.Frag) (CP : Addr) : Prop where
  cl : Cls K CP
  na : ∀ f ∈ pall, NoAttr K CP f
structure ProgAt (CP : Addr) (H : Hp) (x : Addr) (ad : Nat → Addr) (mo pr bh fh : Addr) (R : RdM) (z : Str) (be : List (Int × Int)) (fi : List (Str × Int)) : Prop where
  ob : ∃ dx, H x = some (.ins CP dx (pflds ad z mo pr bh fh))
  hmo : H mo = some (.tup ((R.modes.map (·.1)).map V.str))
  hpr : H pr = some (.tup ((R.routines.map (·.1)).map V.str))
  hbh : H bh = some (.dK (kI V.int be))
  hfh : H fh = some (.dK (kS V.int fi))
  tab : ∀ i, i < 11 → i ≠ 4 → H (ad i) = (tabs R)[i]?
  own : H (ad 4) = some (.dK (kI V.str R.owners)) ∨ ∃ o, H (ad 4) = some (.frz o (.dK (kI V.str R.owners)))
  dis : (∀ i, i < 11 → i ≠ 4 → ad i ≠ ad 4) ∧ bh ≠ ad 4 ∧ fh ≠ ad 4
  ne : NestOk H ad R
section
variable {CP : Addr} {H : Hp} {x : Addr} {ad : Nat → Addr} {mo pr bh fh : Addr} {R : RdM} {z : Str} {be : List (Int × Int)} {fi : List (Str × Int)}
theorem ProgAt.same {H' : Hp} (r : ProgAt CP H x ad mo pr bh fh R z be fi) (s : Same H H') : ProgAt CP H' x ad mo pr bh fh R z be fi := by
  obtain ⟨⟨dx, ho⟩, h1, h2, h3, h4, ht, hw, hd, hn⟩ := r
  refine ⟨⟨dx, s _ _ ho⟩, s _ _ h1, s _ _ h2, s _ _ h3, s _ _ h4, fun i h h' => ?_, hw.elim (fun e => .inl (s _ _ e)) (fun ⟨o, e⟩ => .inr ⟨o, s _ _ e⟩), hd, hn.mono fun b o e _ => s _ _ e⟩
  have e := ht i h h'
  cases q : (tabs R)[i]? with
  | none => exact absurd (List.getElem?_eq_none_iff.mp q) (by show ¬ 12 ≤ i; omega)
  | some o => rw [q] at e; exact s _ _ e
theorem ProgAt.t0 (r : ProgAt CP H x ad mo pr bh fh R z be fi) : H (ad 0) = some (.dK (kS (fun x => .ref x.1) R.modes)) := r.tab 0 (by decide) (by decide)
theorem ProgAt.t1 (r : ProgAt CP H x ad mo pr bh fh R z be fi) : H (ad 1) = some (.dK (kS V.str R.begins)) := r.tab 1 (by decide) (by decide)
theorem ProgAt.t3 (r : ProgAt CP H x ad mo pr bh fh R z be fi) : H (ad 3) = some (.dK (kI V.str R.kinds)) := r.tab 3 (by decide) (by decide)
theorem ProgAt.t5 (r : ProgAt CP H x ad mo pr bh fh R z be fi) : H (ad 5) = some (.dK (kI V.int R.partners)) := r.tab 5 (by decide) (by decide)
theorem ProgAt.t6 (r : ProgAt CP H x ad mo pr bh fh R z be fi) : H (ad 6) = some (.dK (kI (fun x => .ref x.1) R.ors)) := r.tab 6 (by decide) (by decide)
theorem ProgAt.t7 (r : ProgAt CP H x ad mo pr bh fh R z be fi) : H (ad 7) = some (.dK (kI V.str R.calls)) := r.tab 7 (by decide) (by decide)
theorem ProgAt.t8 (r : ProgAt CP H x ad mo pr bh fh R z be fi) : H (ad 8) = some (.dK (kI V.int R.leaves)) := r.tab 8 (by decide) (by decide)
theorem ProgAt.t9 (r : ProgAt CP H x ad mo pr bh fh R z be fi) : H (ad 9) = some (.dK (kI (fun x => .ref x.1) R.works)) := r.tab 9 (by decide) (by decide)
/-- the owners' table locked -/
theorem ProgAt.lock4 (r : ProgAt CP H x ad mo pr bh fh R z be fi) (od : Obj) : ProgAt CP (upd H (ad 4) (.frz od (.dK (kI V.str R.owners)))) x ad mo pr bh fh R z be fi := by
  obtain ⟨⟨dx, ho⟩, h1, h2, h3, h4, ht, hw, hd, hn⟩ := r
  have ne : ∀ b o, H b = some o → (∀ kvs, o ≠ .dK kvs) → (∀ q kvs, o ≠ .frz q (.dK kvs)) → b ≠ ad 4 := fun b o e n1 n2 z => by
    subst z
    rcases hw with q | ⟨_, q⟩
    · rw [q] at e
      cases e
      exact n1 _ rfl
    · rw [q] at e
      cases e
      exact n2 _ _ rfl
  refine ⟨⟨dx, by rw [upd_ne (ne _ _ ho (fun _ z => by cases z) fun _ _ z => by cases z)]; exact ho⟩, by rw [upd_ne (ne _ _ h1 (fun _ z => by cases z) fun _ _ z => by cases z)]; exact h1, by rw [upd_ne (ne _ _ h2 (fun _ z => by cases z) fun _ _ z => by cases z)]; exact h2, by rw [upd_ne hd.2.1]; exact h3, by rw [upd_ne hd.2.2]; exact h4, fun i h h' => by rw [upd_ne (hd.1 i h h')]; exact ht i h h', .inr ⟨od, upd_same⟩, hd, ⟨fun y hy => ⟨by rw [upd_ne ((hn.mo y hy).2 4 (by decide))]; exact (hn.mo y hy).1, (hn.mo y hy).2⟩, fun y hy => ⟨by rw [upd_ne ((hn.os y hy).2 4 (by decide))]; exact (hn.os y hy).1, (hn.os y hy).2⟩, fun y hy => ⟨by rw [upd_ne ((hn.wo y hy).2 4 (by decide))]; exact (hn.wo y hy).1, (hn.wo y hy).2⟩⟩⟩
theorem r_pg {K : PySem.W.Frag} {f : Str} {v : V} {Q : VK} (r : ProgAt CP H x ad mo pr bh fh R z be fi) (T : PrgTxt K CP) (hm : f ∈ pall) (hl : (pflds ad z mo pr bh fh).lookup f = some v) (h : Q v H) : rFld K f (.ref x) H Q := by
  obtain ⟨dx, e⟩ := r.ob
  exact ⟨x, CP, dx, _, v, rfl, e, T.cl, T.na f hm, hl, h⟩
/-- as much of a program as check_mode and prices_of read -/
structure ProgB (CP : Addr) (H : Hp) (x : Addr) (ad : Nat → Addr) (mo pr bh fh : Addr) (R : RdM) (z : Str) : Prop where
  ob : ∃ dx, H x = some (.ins CP dx (pflds ad z mo pr bh fh))
  hmo : H mo = some (.tup ((R.modes.map (·.1)).map V.str))
  t0 : H (ad 0) = some (.dK (kS (fun x => .ref x.1) R.modes))
theorem ProgAt.b (r : ProgAt CP H x ad mo pr bh fh R z be fi) : ProgB CP H x ad mo pr bh fh R z := ⟨r.ob, r.hmo, r.t0⟩
theorem r_pgB {K : PySem.W.Frag} {f : Str} {v : V} {Q : VK} (r : ProgB CP H x ad mo pr bh fh R z) (T : PrgTxt K CP) (hm : f ∈ pall) (hl : (pflds ad z mo pr bh fh).lookup f = some v) (h : Q v H) : rFld K f (.ref x) H Q := by
  obtain ⟨dx, e⟩ := r.ob
  exact ⟨x, CP, dx, _, v, rfl, e, T.cl, T.na f hm, hl, h⟩
/-- the same while a mode's own table is locked -/
theorem ProgAt.locked {y : Addr × List (Str × Int)} {m : Str} {o : HO} (r : ProgAt CP H x ad mo pr bh fh R z be fi) (hy : look R.modes m = some y) : ProgB CP (upd H y.1 o) x ad mo pr bh fh R z := by
  have hd := r.ne.mo _ (look_mem hy)
  obtain ⟨dx, e⟩ := r.ob
  refine ⟨⟨dx, ?_⟩, ?_, ?_⟩
  · rw [upd_ne (ne_of e hd.1 fun z => by cases z)]
    exact e
  · rw [upd_ne (ne_of r.hmo hd.1 fun z => by cases z)]
    exact r.hmo
  · rw [upd_ne (Ne.symm (hd.2 0 (by decide)))]
    exact r.t0
theorem look_mode {m : Str} : ∀ {l : List (Str × Addr × List (Str × Int))}, m ∈ l.map (·.1) → ∃ y, look l m = some y
  | [], h => by cases h
  | a :: r, h => by
    unfold look
    by_cases e : a.1 = m
    · exact ⟨a.2, if_pos e⟩
    · rw [if_neg e]
      rcases List.mem_cons.mp h with h | h
      · exact absurd h.symm e
      · exact look_mode h
end
/-- what item_at tells: None, or the item's value -/
def itemM (R : RdM) (m : Str) (line : Int) : Option Str := (look R.works line).bind fun y => look y.2 m
def optV : Option Str → V
  | none => .non
  | some v => .str v
/-- the last value behind the lines -/
def lastM (R : RdM) (m : Str) (ls : List Int) : Str := match ls.reverse.findSome? (itemM R m) with
  | some v => v
  | none => (look R.begins m).getD ("?" : Str)
theorem findSome_at {α β : Type} {f : α → Option β} {b : β} {a : α} : ∀ {l : List α} {i : Nat}, (∀ j < i, ∀ x, l[j]? = some x → f x = none) → l[i]? = some a → f a = some b → l.findSome? f = some b
  | [], i, _, h, _ => by simp at h
  | c :: r, 0, _, h, hb => by
    have e : c = a := by simpa using h
    rw [List.findSome?_cons, e, hb]
  | c :: r, i + 1, ha, h, hb => by
    have e := ha 0 (Nat.succ_pos i) c rfl
    rw [List.findSome?_cons, e]
    exact findSome_at (i := i) (fun j hj x hx => ha (j + 1) (by omega) x hx) (by simpa using h) hb
theorem findSome_no {α β : Type} {f : α → Option β} {l : List α} (h : ∀ j < l.length, ∀ x, l[j]? = some x → f x = none) : l.findSome? f = none := by
  rw [List.findSome?_eq_none_iff]
  intro x hx
  obtain ⟨j, hj, e⟩ := List.getElem_of_mem hx
  exact h j hj x (by rw [← e]; simp)
/-- what the lines need: prices of the items that the last value does not meet -/
def needL (R : RdM) (m : Str) (ps : List (Str × Int)) : List Int → Str → Int → Int
  | [], _, tot => tot
  | l :: r, last, tot => match itemM R m l with
    | none => needL R m ps r last tot
    | some v => needL R m ps r v (if v ≠ ("?" : Str) ∧ v ≠ last then tot + (look ps v).getD 0 else tot)
theorem x_ikeys {td : TE} {σ : L2.St} {H : Hp} {R : It → Hp → Prop} (h : td σ H fun x H1 => ∃ (d : Addr) (o : Obj), x = V.ref d ∧ ((∃ kvs : List (Key × V), H1 d = some (.frz o (.dK kvs)) ∧ R (Itk d o kvs) H1) ∨ ∃ kvs, H1 d = some (.frz o (.dT kvs)) ∧ R (Itkt d o kvs) H1)) : iKeys td σ H R := h
end MP
end
section
namespace MP
open PySem L2
/-! ### making a program -/
/-- a dict comprehension over a walk -/
theorem dc_it {J : It} {n : Nat} {G : Hp → Prop} {Y : Nat → Hp → V → Hp → Prop} (w : Walk J n G Y) {g : TG} {tt : TT} {tk tv : TE} {vs : List Nat} {σ : L2.St} {H1 : Hp} {D : Addr} {Qd : Hp → Prop} (Pv : Nat → Hp → Prop) (h0 : Pv 0 (upd H1 D (.dK []))) (hG : ∀ i H, i ≤ n → Pv i H → G H)
    (hs : ∀ i x H H', i < n → Pv i H → Y i H x H' → g x (wipe σ vs) H' fun σ2 H2 => wipe σ2 vs = wipe σ vs ∧ tt σ2 H2 fun b H3 =>
      if b = true then tk σ2 H3 fun y H4 => tv σ2 H4 fun z H5 => ∃ kvs k, y = kV k ∧ H5 D = some (.dK kvs) ∧ kvs.length < sizeLine ∧ Pv (i + 1) (upd H5 D (.dK (putK kvs k z))) else Pv (i + 1) H3) (hd : ∀ H, Pv n H → Qd H) :
    ∃ W : Nat → Nat → Hp → Prop, (∃ m, W 0 m (upd H1 D (.dK []))) ∧ ∀ i m H, W i m H →
      (J.stop i H ∧ Qd H) ∨ (J.go i H ∧ ∃ Nx : Hp → Prop, (∀ H', Nx H' → ∃ m', m' < m ∧ W (i + 1) m' H') ∧ ∀ x H', J.yld i H x H' → g x (wipe σ vs) H' fun σ2 H2 => wipe σ2 vs = wipe σ vs ∧ tt σ2 H2 fun b H3 =>
        if b = true then tk σ2 H3 fun y H4 => tv σ2 H4 fun z H5 => ∃ kvs k, y = kV k ∧ H5 D = some (.dK kvs) ∧ kvs.length < sizeLine ∧ Nx (upd H5 D (.dK (putK kvs k z))) else Nx H3) := by
  refine ⟨fun i m H => m = n - i ∧ i ≤ n ∧ Pv i H, ⟨n, by simp, Nat.zero_le _, h0⟩, fun i m H ⟨em, hi, p⟩ => ?_⟩
  have q := hG i H hi p
  rcases Nat.lt_or_ge i n with hlt | hge
  · exact .inr ⟨w.goes i H hlt q, Pv (i + 1), fun H' p' => ⟨n - (i + 1), by omega, rfl, hlt, p'⟩, fun x H' y => hs i x H H' hlt p (w.yields i H x H' hlt q y)⟩
  · have e : i = n := Nat.le_antisymm hi hge
    subst e
    exact .inl ⟨w.stops H q, hd H p⟩
theorem RunW.mono {nm pr : Str → Bool} {val : Str → Int} {it : Str → Option (Str × Str)} {wd : Str → List Str} {F F' : RdM → Prop} {B B' : Int → Prop} (hF : ∀ R, F R → F' R) (hB : ∀ l, B l → B' l) : ∀ {rows : List Str} {R : RdM} {l : Int}, RunW nm pr val it wd F B rows R l → RunW nm pr val it wd F' B' rows R l
  | [], R, _, h => hF R h
  | _ :: _, _, _, h => ⟨fun e => RunW.mono hF hB (h.1 e), fun e => ⟨fun k => hB _ ((h.2 e).1 k), fun k q => RunW.mono hF hB ((h.2 e).2 k q)⟩⟩
theorem x_iitems {td : TE} {σ : L2.St} {H : Hp} {R : It → Hp → Prop} (h : td σ H fun x H1 => ∃ (d : Addr) (o : Obj) (kvs : List (Key × V)), x = V.ref d ∧ H1 d = some (.frz o (.dK kvs)) ∧ R (Iti d o kvs) H1) : iItems td σ H R := h
theorem putK_kI {α : Type} (f : α → V) (l : List (Int × α)) (k : Int) (v : α) : putK (kI f l) (Sum.inl k : Key) (f v) = kI f (putG l k v) := by
  unfold putG
  by_cases hn : (look l k).isSome = true
  · rw [if_pos hn]
    have h1 : ((kI f l).any fun kv => decide (kv.1 = (Sum.inl k : Key))) = true := by rw [valV_any, valV_kI, Option.isSome_map]; exact hn
    unfold putK
    rw [if_pos h1]
    unfold kI setL
    rw [List.map_map, List.map_map]
    refine List.map_congr_left fun x _ => ?_
    show (if (Sum.inl x.1 : Key) = Sum.inl k then _ else _) = (((Sum.inl (if x.1 = k then (k, v) else x).1 : Key)), f (if x.1 = k then (k, v) else x).2)
    by_cases e : x.1 = k
    · rw [if_pos e, if_pos (by rw [e])]
      show ((Sum.inl x.1 : Key), f v) = (Sum.inl k, f v)
      rw [e]
    · rw [if_neg e, if_neg fun z => e (Sum.inl.inj z)]
  · rw [if_neg hn, putK_new _ (by rw [valV_kI]; simpa using hn)]
    unfold kI
    rw [List.map_append]
    rfl
theorem putK_kS {α : Type} (f : α → V) (l : List (Str × α)) (k : Str) (v : α) : putK (kS f l) (Sum.inr k : Key) (f v) = kS f (putG l k v) := by
  unfold putG
  by_cases hn : (look l k).isSome = true
  · rw [if_pos hn]
    have h1 : ((kS f l).any fun kv => decide (kv.1 = (Sum.inr k : Key))) = true := by rw [valV_any, valV_kS, Option.isSome_map]; exact hn
    unfold putK
    rw [if_pos h1]
    unfold kS setL
    rw [List.map_map, List.map_map]
    refine List.map_congr_left fun x _ => ?_
    show (if (Sum.inr x.1 : Key) = Sum.inr k then _ else _) = (((Sum.inr (if x.1 = k then (k, v) else x).1 : Key)), f (if x.1 = k then (k, v) else x).2)
    by_cases e : x.1 = k
    · rw [if_pos e, if_pos (by rw [e])]
      show ((Sum.inr x.1 : Key), f v) = (Sum.inr k, f v)
      rw [e]
    · rw [if_neg e, if_neg fun z => e (Sum.inr.inj z)]
  · rw [if_neg hn, putK_new _ (by rw [valV_kS]; simpa using hn)]
    unfold kS
    rw [List.map_append]
    rfl
/-- the line that follows each line, by the lines that are not empty -/
def pairs (R : RdM) : List (Int × Int) := (R.kinds.map (·.1)).zip (R.kinds.map (·.1)).tail
def behF (l : List (Int × Int)) : List (Int × Int) := l.foldl (fun d p => putG d p.1 p.2) []
def behM (R : RdM) : List (Int × Int) := behF (pairs R)
def firF (be : List (Int × Int)) (l : List (Str × Int)) : List (Str × Int) := l.foldl (fun d x => putG d x.1 ((look be x.2).getD 0)) []
def firM (R : RdM) : List (Str × Int) := firF (behM R) R.routines
theorem behF_take {l : List (Int × Int)} {i : Nat} {p : Int × Int} (h : l[i]? = some p) : behF (l.take (i + 1)) = putG (behF (l.take i)) p.1 p.2 := by
  unfold behF
  rw [List.take_add_one, h, List.foldl_append]
  rfl
theorem firF_take {be : List (Int × Int)} {l : List (Str × Int)} {i : Nat} {p : Str × Int} (h : l[i]? = some p) : firF be (l.take (i + 1)) = putG (firF be (l.take i)) p.1 ((look be p.2).getD 0) := by
  unfold firF
  rw [List.take_add_one, h, List.foldl_append]
  rfl
theorem foldG_len {κ α β : Type} [DecidableEq κ] (k : β → κ) (v : β → α) : ∀ (l : List β) (d : List (κ × α)), (l.foldl (fun d p => putG d (k p) (v p)) d).length ≤ d.length + l.length
  | [], _ => Nat.le_refl _
  | a :: r, d => by
    have h1 := foldG_len k v r (putG d (k a) (v a))
    have h2 := putG_len d (k a) (v a)
    rw [List.foldl_cons, List.length_cons]
    omega
theorem behF_len (l : List (Int × Int)) : (behF l).length ≤ l.length := by
  have h := foldG_len (fun p : Int × Int => p.1) (fun p => p.2) l []
  simpa [behF] using h
theorem firF_len (be : List (Int × Int)) (l : List (Str × Int)) : (firF be l).length ≤ l.length := by
  have h := foldG_len (fun p : Str × Int => p.1) (fun p => (look be p.2).getD 0) l []
  simpa [firF] using h
/-- the comprehension of a table's keys -/
theorem lc_keys {d D : Addr} {od : Obj} {kvs : List (Key × V)} {H1 : Hp} {i : Nat} {σ : L2.St} {Qd : Hp → Prop} (hd : H1 d = some (.frz od (.dK kvs))) (hD : H1 D = none) (hl : kvs.length < 100000)
    (hw : ∀ v, wipe ((wipe σ [i]).set i (some v)) [i] = wipe σ [i] ∧ ((wipe σ [i]).set i (some v))[i]? = some (some v)) (q : Qd (upd H1 D (.lst (kvs.map fun e => kV e.1)))) :
    ∃ W : Nat → Nat → Hp → Prop, (∃ m, W 0 m (upd H1 D (.lst []))) ∧ ∀ j m H, W j m H →
      ((Itk d od kvs).stop j H ∧ Qd H) ∨ ((Itk d od kvs).go j H ∧ ∃ Nx : Hp → Prop, (∀ H', Nx H' → ∃ m', m' < m ∧ W (j + 1) m' H') ∧ ∀ x H', (Itk d od kvs).yld j H x H' → gName i x (wipe σ [i]) H' fun σ2 H2 => wipe σ2 [i] = wipe σ [i] ∧ tYes σ2 H2 fun b H3 =>
        if b = true then tVar i σ2 H3 fun y H4 => ∃ acc, H4 D = some (.lst acc) ∧ acc.length < sizeLine ∧ Nx (upd H4 D (.lst (acc ++ [y]))) else Nx H3) := by
  have hDd : D ≠ d := fun z => by rw [z, hd] at hD; cases hD
  refine lc_it walk_keys (fun j H3 => H3 = upd H1 D (.lst ((kvs.take j).map fun e => kV e.1))) rfl (fun j H3 _ e => by rw [e, upd_ne (Ne.symm hDd)]; exact hd) ?_ ?_
  · rintro j x H3 H4 hj rfl ⟨rfl, k2, v2, hk2, rfl⟩
    refine ⟨(hw _).1, ?_⟩
    unfold tYes
    refine x_T ?_
    refine ⟨_, (hw _).2, (kvs.take j).map (fun e => kV e.1), upd_same, ?_, ?_⟩
    · rw [List.length_map, List.length_take]
      have := big5
      omega
    · rw [upd_upd, List.take_add_one, hk2, List.map_append]
      rfl
  · rintro H3 rfl
    rw [List.take_length]
    exact q
theorem keys_kS {α : Type} (f : α → V) (l : List (Str × α)) : ((kS f l).map fun e => kV e.1) = (l.map (·.1)).map V.str := by
  unfold kS
  rw [List.map_map, List.map_map]
  rfl
theorem keys_kI {α : Type} (f : α → V) (l : List (Int × α)) : ((kI f l).map fun e => kV e.1) = (l.map (·.1)).map V.int := by
  unfold kI
  rw [List.map_map, List.map_map]
  rfl
theorem RdAt.off {C : Addr} {H : Hp} {p x : Addr} {ad : Nat → Addr} {R : RdM} {C2 dx : Addr} {fs : List (Str × V)} (r : RdAt C H p ad R) (hx : H x = some (.ins C2 dx fs)) (hp : x ≠ p) (o : HO) : RdAt C (upd H x o) p ad R := by
  obtain ⟨⟨dx0, ho⟩, htb, hin, hnp, hn⟩ := r
  have ha : ∀ j, j < 12 → ad j ≠ x := fun j hj z => by
    have e := htb j hj
    rw [z, hx] at e
    have : j = 0 ∨ j = 1 ∨ j = 2 ∨ j = 3 ∨ j = 4 ∨ j = 5 ∨ j = 6 ∨ j = 7 ∨ j = 8 ∨ j = 9 ∨ j = 10 ∨ j = 11 := by omega
    rcases this with rfl | rfl | rfl | rfl | rfl | rfl | rfl | rfl | rfl | rfl | rfl | rfl <;> cases e
  refine ⟨⟨dx0, by rw [upd_ne (Ne.symm hp)]; exact ho⟩, fun j hj => by rw [upd_ne (ha j hj)]; exact htb j hj, hin, hnp, ⟨fun y hy => ⟨?_, (hn.mo y hy).2⟩, fun y hy => ⟨?_, (hn.os y hy).2⟩, fun y hy => ⟨?_, (hn.wo y hy).2⟩⟩⟩
  · rw [upd_ne (ne_of (hn.mo y hy).1 hx fun z => by cases z)]
    exact (hn.mo y hy).1
  · rw [upd_ne (ne_of (hn.os y hy).1 hx fun z => by cases z)]
    exact (hn.os y hy).1
  · rw [upd_ne (ne_of (hn.wo y hy).1 hx fun z => by cases z)]
    exact (hn.wo y hy).1
/-- a program under way: its object at x, what was read at p -/
structure PrI (CP C dx : Addr) (H0 H : Hp) (x p : Addr) (ad : Nat → Addr) (R : RdM) (fs : List (Str × V)) : Prop where
  ob : H x = some (.ins CP dx fs)
  xp : x ≠ p
  rd : RdAt C H p ad R
  fr : ∀ b o, H0 b = some o → b ≠ x → H b = some o
section
variable {CP C dx : Addr} {H0 H : Hp} {x p : Addr} {ad : Nat → Addr} {R : RdM} {fs : List (Str × V)}
theorem PrI.set (i : PrI CP C dx H0 H x p ad R fs) (gs : List (Str × V)) : PrI CP C dx H0 (upd H x (.ins CP dx gs)) x p ad R gs :=
  ⟨upd_same, i.xp, i.rd.off i.ob i.xp _, fun b o e n => by rw [upd_ne n]; exact i.fr b o e n⟩
theorem PrI.same {H' : Hp} (i : PrI CP C dx H0 H x p ad R fs) (s : Same H H') : PrI CP C dx H0 H' x p ad R fs :=
  ⟨s _ _ i.ob, i.xp, i.rd.same s, fun b o e n => s _ _ (i.fr b o e n)⟩
theorem PrI.put {K : PySem.W.Frag} {f : Str} {v : V} {N : Hp → Prop} (i : PrI CP C dx H0 H x p ad R fs) (T : PrgTxt K CP) (hm : f ∈ pall) (hl : fs.length < 1000)
    (q : ∀ H', PrI CP C dx H0 H' x p ad R (putF f v fs) → (∀ t o, t ≠ x → H t = some o → H' t = some o) → N H') :
    ∃ fs', V.ref x = V.ref x ∧ H x = some (.ins CP dx fs') ∧ Cls K CP ∧ NoAttr K CP f ∧ fs'.length < 1000 ∧ N (upd H x (.ins CP dx (putF f v fs'))) :=
  ⟨fs, rfl, i.ob, T.cl, T.na f hm, hl, q _ (i.set _) fun t o n e => by rw [upd_ne n]; exact e⟩
end
theorem same_unlock {H H3 : Hp} {d : Addr} {u : HO} {od : Obj} (e : H d = some u) (s : Same (upd H d (.frz od u)) H3) : Same H (upd H3 d u) := fun b o q => by
  by_cases z : b = d
  · subst z
    rw [upd_same, ← q, e]
  · rw [upd_ne z]
    exact s b o (by rw [upd_ne z]; exact q)
theorem same_put {H H3 : Hp} {T D : Addr} {u w : HO} (s : Same H H3) (nT : H3 T = none) (nD : H D = none) : Same H (upd (upd H3 T u) D w) := fun b o q => by
  rw [upd_ne (ne_of_none q nD)]
  exact upd_new (s b o q) nT
theorem pairs_at {R : RdM} {i : Nat} {a b : Int} (h1 : (R.kinds.map (·.1))[i]? = some a) (h2 : (R.kinds.map (·.1)).tail[i]? = some b) : (pairs R)[i]? = some (a, b) :=
  List.getElem?_zip_eq_some.mpr ⟨h1, h2⟩
theorem pairs_len (R : RdM) : (pairs R).length = min (R.kinds.map (·.1)).length (R.kinds.map (·.1)).tail.length := List.length_zip
/-- what stays through stores at x -/
theorem keepX {H : Hp} {x t : Addr} {o u : HO} (h : H t = some o) (hx : t ≠ x) : upd H x u t = some o := by rw [upd_ne hx]; exact h
end MP
end
section
open PySem L2 MPX MP
local macro_rules | `(tactic| walk_at "rd1") => `(tactic| first
  | with_reducible refine x_seq ?_
  | with_reducible refine x_next ?_
  | with_reducible refine x_ret ?_
  | with_reducible refine x_retN ?_
  | with_reducible refine x_ifs ?_
  | with_reducible refine x_asg ?_
  | with_reducible refine x_drop ?_
  | with_reducible refine x_name ?_
  | ((with_reducible refine' x_var ?vv ?_); (case vv => exact rfl))
  | with_reducible refine x_c ?_
  | with_reducible refine x_op ?_
  | with_reducible refine x_un ?_
  | with_reducible refine x_test ?_
  | with_reducible refine x_tB ?_
  | with_reducible refine x_and ?_
  | with_reducible refine x_or ?_
  | with_reducible refine x_not ?_
  | with_reducible refine x_andV ?_
  | with_reducible refine x_orV ?_
  | with_reducible refine x_notV ?_
  | with_reducible refine x_if ?_
  | with_reducible refine x_nil ?_
  | with_reducible refine x_cons ?_
  | with_reducible refine x_tup ?_
  | with_reducible refine x_lst ?_
  | with_reducible refine x_cb ?_
  | with_reducible refine x_call ?_
  | with_reducible refine x_callS ?_
  | with_reducible refine x_callP ?_
  | with_reducible refine x_mk0 ?_
  | with_reducible refine x_mk1 ?_
  | with_reducible refine x_mk2 ?_
  | with_reducible refine x_make ?_
  | with_reducible refine x_sfld ?_
  | with_reducible refine x_din ?_
  | with_reducible refine x_dnin ?_
  | with_reducible refine x_fldS ?_
  | with_reducible refine x_sl3 ?_
  | ((with_reducible refine' r_rd ?vr ?vt ?vm ?vl ?vq); (case vr => (with_reducible assumption)); (case vt => assumption); (case vm => decide +kernel); (case vl => exact rfl))
  | with_reducible refine x_m0 ?_
  | with_reducible refine x_m1 ?_
  | with_reducible refine x_bm0 ?_
  | with_reducible refine x_bm ?_
  | with_reducible refine x_par ?_
  | with_reducible refine x_ilist ?_
  | with_reducible refine x_itup ?_
  | with_reducible refine x_istr ?_
  | ((with_reducible show tLc _ _ _ _ _ _ _ _); unfold tLc)
  | ((with_reducible show tFor _ _ _ _ _ _); unfold tFor)
  | ((with_reducible refine' x_eq ?vv ?_); (case vv => exact rfl))
  | ((with_reducible refine' x_ne ?vv ?_); (case vv => exact rfl))
  | with_reducible refine x_rI0 ?_
  | with_reducible refine x_dgetR ?_
  | with_reducible refine x_dputR ?_
  | with_reducible refine x_dnew ?_
  | with_reducible refine x_dget1 ?_
  | with_reducible refine x_dget2 ?_
  | with_reducible refine x_sl ?_
  | with_reducible refine x_nopart ?_
  | with_reducible refine x_part ?_
  | ((with_reducible refine' x_slL ?vv ?_); (case vv => (with_reducible assumption)))
  | with_reducible refine x_disp ?_
  | with_reducible refine x_pcons ?_
  | with_reducible refine x_pnil ?_
  | ((with_reducible refine' x_mod ?vv ?_); (case vv => omega); intro r er hr0 hr1; (try clear er))
  | ((with_reducible refine' x_rI ?vv ?_); (case vv => walk_at "sc"))
  | (with_reducible refine Or.inl (Exists.intro _ (And.intro rfl ?_)))
  | with_reducible refine x_T ?_
  | with_reducible refine x_F ?_
  | ((with_reducible show Exists (α := V) _); (with_reducible apply Exists.intro))
  | ((with_reducible show Exists (α := Bool) _); (with_reducible apply Exists.intro))
  | ((with_reducible show Exists (α := Nat) _); (with_reducible apply Exists.intro))
  | ((with_reducible show Exists (α := Int) _); (with_reducible apply Exists.intro))
  | ((with_reducible show Exists (α := List V) _); (with_reducible apply Exists.intro))
  | ((with_reducible show Exists (α := PySem.Str) _); (with_reducible apply Exists.intro))
  | ((with_reducible show Exists (α := Option V) _); (with_reducible apply Exists.intro))
  | ((with_reducible show Exists (α := Option Int) _); (with_reducible apply Exists.intro))
  | ((with_reducible show Exists (α := List (Key × V)) _); (with_reducible apply Exists.intro))
  | refine And.intro rfl ?_
  | ((with_reducible refine And.intro ?vv ?_); (case vv => (first | (with_reducible assumption) | (show _ ≤ sizeLine; decide) | exact len_ok rfl)))
  | (refine And.intro (Exists.intro _ rfl) ?_))
local macro_rules | `(tactic| walk_at "sc") => `(tactic| first
  | (with_reducible assumption)
  | exact divW (by omega) (by omega)
  | exact mulW (by omega) (by omega)
  | exact Or.inl ⟨by omega, by omega⟩
  | exact Or.inr ⟨by omega, by omega⟩
  | (show (_ : Int) ≠ 0; omega)
  | exact ⟨by decide, by decide, by decide⟩
  | decide)
local macro_rules | `(tactic| walk_at "rd") => `(tactic| repeat walk_at "rd1")
namespace MP
open PySem L2
section
variable {P : Program} {w : World} {K : PySem.W.Frag} {mg : Str → Option Value} {base : Heap} {ts : Nat → Tok} {kw C CB CT CP CM : Addr}
abbrev s_Program___init__ : Stmt := inClass (topS 39) 0
abbrev N_Program___init__ : List Str := ["self", "text", "reading", "mode", "name", "rows", "line", "other"]
abbrev P_Program___init__ : List Str := ["self", "text"]
theorem sc_Program___init__ : FnScope N_Program___init__ P_Program___init__ (defScope s_Program___init__) := ⟨rfl, rfl, rfl, by decide +kernel, rfl, by decide +kernel, by decide +kernel⟩
structure InitTxt (P : Program) (K : PySem.W.Frag) (mg : Str → Option Value) (C CP : Addr) : Prop where
  rd : RdTxt K C
  pg : PrgTxt K CP
  b_tuple : mg "tuple" = none
  b_zip : mg "zip" = none
/-- the end of a text for a program -/
def FinP (CP CB : Addr) (H : Hp) (x : Addr) (z : Str) (n : Nat) (Q : VK) (E : XK) (R : RdM) : Prop :=
  (endOk R → (∀ y ∈ R.routines, (look (behM R) y.2).isSome = true) ∧ (Sm R → Sm2 R → ∀ ad mo pr bh fh H', (∀ b o, H b = some o → b ≠ x → H' b = some o) → ProgAt CP H' x ad mo pr bh fh R z (behM R) (firM R) → H' (ad 4) = some (.dK (kI V.str R.owners)) → Q .non H')) ∧
  (¬ endOk R → ErrD CB "line" (.int (n + 1)) H E)
def sp_pinit (CP CB CT : Addr) : Sp := fun vs H Q E => ∃ (x dx : Addr) (z : Str), vs = [.ref x, .str z] ∧ H x = some (.ins CP dx []) ∧ z.length + 2 ≤ sizeLine ∧ (6000 < z.length → ErrD CT "what" (.str "characters") H E) ∧ (z.length ≤ 6000 → 120 < (PySem.Txt.split z "\n").length → ErrD CT "what" (.str "lines") H E) ∧
  (z.length ≤ 6000 → (PySem.Txt.split z "\n").length ≤ 120 → RunW isName isPrice priceOf itemOf wordsOf (FinP CP CB H x z (PySem.Txt.split z "\n").length Q E) (fun line => ErrD CB "line" (.int line) H E) (PySem.Txt.split z "\n") RdM.empty 1)
theorem ok_pinit {f : Addr} {fd : FuncData} (F : Fun K "__init__" "Program.__init__" s_Program___init__ f fd) (T : InitTxt P K mg C CP) (c_read_text : Cal P w K mg base 7 "read_text" (sp_read_text C CB CT)) : FnOk P w K mg base (L2.CX P w) 8 f fd P_Program___init__ (sp_pinit CP CB CT) := by
  refine F.okX sc_Program___init__ (fun vs H Q E h => ?_) (fun cdv A outer s H vs Q E hr h => ?_)
  · obtain ⟨x, dx, z, rfl, _⟩ := h
    rfl
  · obtain ⟨x, dx, z, rfl, hx, hz, kc, kl, kr⟩ := h
    have hu := hu_of hr
    have Tr := T.rd
    refine ⟨_, (pss_cons (ps_set (i := 2) sc_Program___init__.nd rfl (Or.inl rfl) (pe_cs c_read_text hr (by decide) rfl (fun σ => passAt (takes_of rfl rfl rfl rfl) σ) (pa_cons (pv 1) pa_nil)))
      (pss_cons (ps_fld (pv 0) (pv 1) rfl)
      (pss_cons (ps_fld (pv 0) (pe_callTy (call_tuple_K (rfl : _ = K)) (by rfl) T.b_tuple (by decide +kernel) (pa_cons (pe_lock (pe_lc (own := [("mode", 3)]) (g := gName 3) (tt := tYes) rfl sc_Program___init__.nd (pi_keys (pe_fld (pv 2) rfl)) (blkOk_by (own := [("mode", 3)]) (N := N_Program___init__) (sc := defScope s_Program___init__) (by decide +kernel)) (fun _ _ _ _ _ => (pg_name (i := 3) sc_Program___init__.nd rfl (Or.inl rfl))) (fun _ _ _ _ _ => pts_nil) (fun _ _ _ _ _ => (pv 3)))) pa_nil)) rfl)
      (pss_cons (ps_fld (pv 0) (pe_callTy (call_tuple_K (rfl : _ = K)) (by rfl) T.b_tuple (by decide +kernel) (pa_cons (pe_lock (pe_lc (own := [("name", 4)]) (g := gName 4) (tt := tYes) rfl sc_Program___init__.nd (pi_keys (pe_fld (pv 2) rfl)) (blkOk_by (own := [("name", 4)]) (N := N_Program___init__) (sc := defScope s_Program___init__) (by decide +kernel)) (fun _ _ _ _ _ => (pg_name (i := 4) sc_Program___init__.nd rfl (Or.inl rfl))) (fun _ _ _ _ _ => pts_nil) (fun _ _ _ _ _ => (pv 4)))) pa_nil)) rfl)
      (pss_cons (ps_fld (pv 0) (pe_fld (pv 2) rfl) rfl)
      (pss_cons (ps_fld (pv 0) (pe_fld (pv 2) rfl) rfl)
      (pss_cons (ps_fld (pv 0) (pe_fld (pv 2) rfl) rfl)
      (pss_cons (ps_fld (pv 0) (pe_fld (pv 2) rfl) rfl)
      (pss_cons (ps_fld (pv 0) (pe_fld (pv 2) rfl) rfl)
      (pss_cons (ps_fld (pv 0) (pe_fld (pv 2) rfl) rfl)
      (pss_cons (ps_fld (pv 0) (pe_fld (pv 2) rfl) rfl)
      (pss_cons (ps_fld (pv 0) (pe_fld (pv 2) rfl) rfl)
      (pss_cons (ps_fld (pv 0) (pe_fld (pv 2) rfl) rfl)
      (pss_cons (ps_fld (pv 0) (pe_fld (pv 2) rfl) rfl)
      (pss_cons (ps_lock (ps_setLc (i := 5) (own := [("line", 6)]) (g := gName 6) (tt := tYes) rfl sc_Program___init__.nd rfl rfl (sw_true rfl rfl rfl (by decide +kernel)) (pi_keys (pe_fld (pv 0) rfl)) (blkOk_by (own := [("line", 6)]) (N := N_Program___init__) (sc := defScope s_Program___init__) (by decide +kernel)) (fun _ _ _ _ _ => (pg_name (i := 6) sc_Program___init__.nd rfl (Or.inl rfl))) (fun _ _ _ _ _ => pts_nil) (fun _ _ _ _ _ => (pv 6))))
      (pss_cons (ps_fld (pv 0) (pe_dc (own := [("line", 6), ("other", 7)]) (g := gTup K 2 (gCons (gName 6) (gCons (gName 7) gNil))) (tt := tYes) rfl sc_Program___init__.nd (pi_zip (by rfl) T.b_zip (pa_cons (pv 5) (pa_cons (pe_slice sl_list (pv 5) (po_some pe_int) po_none) pa_nil))) (blkOk_by (own := [("line", 6), ("other", 7)]) (N := N_Program___init__) (sc := defScope s_Program___init__) (by decide +kernel)) (fun _ _ _ _ _ => (pg_tup rfl (pgs_cons (pg_name (i := 6) sc_Program___init__.nd rfl (Or.inl rfl)) (pgs_cons (pg_name (i := 7) sc_Program___init__.nd rfl (Or.inl rfl)) pgs_nil)))) (fun _ _ _ _ _ => pts_nil) (fun _ _ _ _ _ => (pv 6)) (fun _ _ _ _ _ => (pv 7))) rfl)
      (pss_one (ps_fld (pv 0) (pe_lock (pe_dc (own := [("name", 4), ("line", 6)]) (g := gTup K 2 (gCons (gName 4) (gCons (gName 6) gNil))) (tt := tYes) rfl sc_Program___init__.nd (pi_items (pe_fld (pv 2) rfl)) (blkOk_by (own := [("name", 4), ("line", 6)]) (N := N_Program___init__) (sc := defScope s_Program___init__) (by decide +kernel)) (fun _ _ _ _ _ => (pg_tup rfl (pgs_cons (pg_name (i := 4) sc_Program___init__.nd rfl (Or.inl rfl)) (pgs_cons (pg_name (i := 6) sc_Program___init__.nd rfl (Or.inl rfl)) pgs_nil)))) (fun _ _ _ _ _ => pts_nil) (fun _ _ _ _ _ => (pv 4)) (fun _ _ _ _ _ => (pe_dget hu (pe_fldK (rfl : _ = K) (pv 0) rfl) (pv 6) (fun _ _ => rfl))))) rfl)))))))))))))))))), ?_⟩
    show tSeq _ _ _ [some (V.ref x), some (V.str z), none, none, none, none, none, none] H
    walk_at "rd"
    refine ⟨z, rfl, hz, kc, kl, fun g1 g2 => RunW.mono (fun R hF => ⟨fun ok sm sm2 p ad H1 s1 r => ?_, hF.2⟩) (fun _ h => h) (kr g1 g2)⟩
    obtain ⟨hfir, kq⟩ := hF.1 ok
    replace kq := kq sm sm2
    clear kr kc kl hF
    have hx1 := s1 _ _ hx
    have xp : x ≠ p := fun e => by
      obtain ⟨dx2, hob⟩ := r.ob
      rw [← e, hx1] at hob
      cases hob
    have i0 : PrI CP C dx H H1 x p ad R [] := ⟨hx1, xp, r, fun b o e _ => s1 _ _ e⟩
    clear r hx1 s1
    walk_at "rd"
    refine i0.put T.pg (by decide +kernel) (Nat.le_of_ble_eq_true rfl) fun H2 i1 _ => ?_
    clear i0
    walk_at "rd"
    have r1 := i1.rd
    refine ⟨ad 0, _, r1.t0, trivial, fun od => ?_⟩
    walk_at "rd"
    refine x_ikeys ?_
    walk_at "rd"
    obtain ⟨dxr, hobr⟩ := r1.ob
    refine r_rdO (by rw [upd_ne (r1.np 0 (by decide))]; exact hobr) T.rd (by decide +kernel) rfl ?_
    refine ⟨ad 0, od, rfl, Or.inl ⟨_, upd_same, fun D hD => ?_⟩⟩
    refine lc_keys upd_same hD (by rw [kS_len]; exact lt5 sm.s0) (fun _ => ⟨rfl, rfl⟩) ?_
    rw [keys_kS]
    refine ⟨by rw [upd_ne fun z => by rw [← z, upd_same] at hD; cases hD]; exact upd_same, ?_⟩
    obtain ⟨sL, eD⟩ := same_lock (w := .lst ((R.modes.map (·.1)).map V.str)) r1.t0 hD
    generalize upd (upd (upd H2 (ad 0) _) D _) (ad 0) _ = H1L at sL eD ⊢
    show tNil _ _ _
    walk_at "rd"
    refine x_tupL (SqL.of eD) fun mo nmo => ?_
    have i1b := i1.same (sL.trans (same_upd (o := .tup ((R.modes.map (·.1)).map V.str)) nmo))
    have hmo : upd H1L mo (.tup ((R.modes.map (·.1)).map V.str)) mo = _ := upd_same
    have smo := sL.trans (same_upd (o := .tup ((R.modes.map (·.1)).map V.str)) nmo)
    clear r1 i1 sL eD hobr hD
    generalize upd H1L mo _ = H1T at i1b hmo smo ⊢
    have xmo : mo ≠ x := ne_of hmo i1b.ob fun z => by cases z
    walk_at "rd"
    refine i1b.put T.pg (by decide +kernel) (Nat.le_of_ble_eq_true rfl) fun H3 i2 k2 => ?_
    replace hmo := k2 _ _ xmo hmo
    clear i1b k2 smo
    walk_at "rd"
    have r2 := i2.rd
    refine ⟨ad 2, _, r2.t2, trivial, fun od => ?_⟩
    walk_at "rd"
    refine x_ikeys ?_
    walk_at "rd"
    obtain ⟨dxr, hobr⟩ := r2.ob
    refine r_rdO (by rw [upd_ne (r2.np 2 (by decide))]; exact hobr) T.rd (by decide +kernel) rfl ?_
    refine ⟨ad 2, od, rfl, Or.inl ⟨_, upd_same, fun D hD => ?_⟩⟩
    refine lc_keys upd_same hD (by rw [kS_len]; exact lt5 sm.s2) (fun _ => ⟨rfl, rfl⟩) ?_
    rw [keys_kS]
    refine ⟨by rw [upd_ne fun z => by rw [← z, upd_same] at hD; cases hD]; exact upd_same, ?_⟩
    obtain ⟨sL, eD⟩ := same_lock (w := .lst ((R.routines.map (·.1)).map V.str)) r2.t2 hD
    generalize upd (upd (upd H3 (ad 2) _) D _) (ad 2) _ = H2L at sL eD ⊢
    show tNil _ _ _
    walk_at "rd"
    refine x_tupL (SqL.of eD) fun pr npr => ?_
    have i2b := i2.same (sL.trans (same_upd (o := .tup ((R.routines.map (·.1)).map V.str)) npr))
    have hpr : upd H2L pr (.tup ((R.routines.map (·.1)).map V.str)) pr = _ := upd_same
    have spr := sL.trans (same_upd (o := .tup ((R.routines.map (·.1)).map V.str)) npr)
    clear r2 i2 sL eD hobr hD
    generalize upd H2L pr _ = H2T at i2b hpr spr ⊢
    have xpr : pr ≠ x := ne_of hpr i2b.ob fun z => by cases z
    walk_at "rd"
    replace hmo := spr _ _ hmo
    refine i2b.put T.pg (by decide +kernel) (Nat.le_of_ble_eq_true rfl) fun H4 i3 k3 => ?_
    replace hmo := k3 _ _ xmo hmo
    replace hpr := k3 _ _ xpr hpr
    clear i2b k3 spr
    have r3 := i3.rd
    walk_at "rd"
    refine i3.put T.pg (by decide +kernel) (Nat.le_of_ble_eq_true rfl) fun H5 i4 k4 => ?_
    replace hmo := k4 _ _ xmo hmo
    replace hpr := k4 _ _ xpr hpr
    clear i3 k4 r3
    have r4 := i4.rd
    walk_at "rd"
    refine i4.put T.pg (by decide +kernel) (Nat.le_of_ble_eq_true rfl) fun H6 i5 k5 => ?_
    replace hmo := k5 _ _ xmo hmo
    replace hpr := k5 _ _ xpr hpr
    clear i4 k5 r4
    have r5 := i5.rd
    walk_at "rd"
    refine i5.put T.pg (by decide +kernel) (Nat.le_of_ble_eq_true rfl) fun H7 i6 k6 => ?_
    replace hmo := k6 _ _ xmo hmo
    replace hpr := k6 _ _ xpr hpr
    clear i5 k6 r5
    have r6 := i6.rd
    walk_at "rd"
    refine i6.put T.pg (by decide +kernel) (Nat.le_of_ble_eq_true rfl) fun H8 i7 k7 => ?_
    replace hmo := k7 _ _ xmo hmo
    replace hpr := k7 _ _ xpr hpr
    clear i6 k7 r6
    have r7 := i7.rd
    walk_at "rd"
    refine i7.put T.pg (by decide +kernel) (Nat.le_of_ble_eq_true rfl) fun H9 i8 k8 => ?_
    replace hmo := k8 _ _ xmo hmo
    replace hpr := k8 _ _ xpr hpr
    clear i7 k8 r7
    have r8 := i8.rd
    walk_at "rd"
    refine i8.put T.pg (by decide +kernel) (Nat.le_of_ble_eq_true rfl) fun H10 i9 k9 => ?_
    replace hmo := k9 _ _ xmo hmo
    replace hpr := k9 _ _ xpr hpr
    clear i8 k9 r8
    have r9 := i9.rd
    walk_at "rd"
    refine i9.put T.pg (by decide +kernel) (Nat.le_of_ble_eq_true rfl) fun H11 i10 k10 => ?_
    replace hmo := k10 _ _ xmo hmo
    replace hpr := k10 _ _ xpr hpr
    clear i9 k10 r9
    have r10 := i10.rd
    walk_at "rd"
    refine i10.put T.pg (by decide +kernel) (Nat.le_of_ble_eq_true rfl) fun H12 i11 k11 => ?_
    replace hmo := k11 _ _ xmo hmo
    replace hpr := k11 _ _ xpr hpr
    clear i10 k11 r10
    have r11 := i11.rd
    walk_at "rd"
    refine i11.put T.pg (by decide +kernel) (Nat.le_of_ble_eq_true rfl) fun H13 i12 k12 => ?_
    replace hmo := k12 _ _ xmo hmo
    replace hpr := k12 _ _ xpr hpr
    clear i11 k12 r11
    have r12 := i12.rd
    walk_at "rd"
    refine i12.put T.pg (by decide +kernel) (Nat.le_of_ble_eq_true rfl) fun H14 i13 k13 => ?_
    replace hmo := k13 _ _ xmo hmo
    replace hpr := k13 _ _ xpr hpr
    clear i12 k13 r12
    have r13 := i13.rd
    walk_at "rd"
    have xa : ∀ j, j < 12 → x ≠ ad j := fun j hj z => by
      have e := r13.tab j hj
      rw [← z, i13.ob] at e
      rcases in12 hj with rfl | rfl | rfl | rfl | rfl | rfl | rfl | rfl | rfl | rfl | rfl | rfl <;> cases e
    refine ⟨ad 3, _, r13.t3, trivial, fun od => ?_⟩
    walk_at "rd"
    refine x_ikeys ?_
    walk_at "rd"
    refine ⟨x, CP, dx, _, _, rfl, by rw [upd_ne (xa 3 (by decide))]; exact i13.ob, T.pg.cl, T.pg.na _ (by decide +kernel), rfl, ?_⟩
    refine ⟨ad 3, od, rfl, Or.inl ⟨_, upd_same, fun D hD => ?_⟩⟩
    refine lc_keys upd_same hD (by rw [kI_len]; exact lt5 sm.s3) (fun _ => ⟨rfl, rfl⟩) ?_
    rw [keys_kI]
    walk_at "rd"
    refine ⟨by rw [upd_ne fun z => by rw [← z, upd_same] at hD; cases hD]; exact upd_same, ?_⟩
    obtain ⟨sL, eD⟩ := same_lock (w := .lst ((R.kinds.map (·.1)).map V.int)) r13.t3 hD
    generalize upd (upd (upd H14 (ad 3) _) D _) (ad 3) _ = H15 at sL eD ⊢
    have i14 := i13.same sL
    replace hmo := sL _ _ hmo
    replace hpr := sL _ _ hpr
    clear i13 r13 sL hD
    walk_at "rd"
    unfold tDc
    refine x_izip ?_
    walk_at "rd"
    refine x_slL (SqL.of eD) fun l2 nl2 => ?_
    have s2 := same_upd (o := .lst (cutV ((R.kinds.map (·.1)).map V.int) (some 1) none)) nl2
    have e2 : upd H15 l2 (.lst (cutV ((R.kinds.map (·.1)).map V.int) (some 1) none)) l2 = some (.lst ((R.kinds.map (·.1)).tail.map V.int)) := by
      rw [upd_same, show (some (1 : Int)) = some ((1 : Nat) : Int) from rfl, cutV_from, ← List.map_drop, List.drop_one]
    have i15 := i14.same s2
    replace hmo := s2 _ _ hmo
    replace hpr := s2 _ _ hpr
    replace eD := s2 _ _ eD
    generalize upd H15 l2 _ = H16 at s2 e2 i15 hmo hpr eD ⊢
    clear i14 s2 nl2
    walk_at "rd"
    refine ⟨SqL.of eD, SqL.of e2, fun D2 hD2 => ?_⟩
    have hb4 : D2 ≠ ad 4 := fun z => by rw [z, i15.rd.t4] at hD2; cases hD2
    have hb2 : D2 ≠ ad 2 := fun z => by rw [z, i15.rd.t2] at hD2; cases hD2
    refine dc_it (walk_zip (n := (pairs R).length) (by simp [pairs_len])) (fun i H3 => Hold (H3 D2 = some (.dK (kI V.int (behF ((pairs R).take i)))) ∧ Same H16 H3)) ⟨upd_same, same_upd hD2⟩ (fun i H3 _ ⟨_, s⟩ => ⟨SqL.of (s _ _ eD), SqL.of (s _ _ e2)⟩) ?_ ?_
    · rintro i v H3 H4 hi ⟨h3, s3⟩ ⟨T1, vx, vy, rfl, nT, rfl, hx, hy⟩
      replace hx : ((R.kinds.map (·.1)).map V.int)[i]? = some vx := hx
      replace hy : ((R.kinds.map (·.1)).tail.map V.int)[i]? = some vy := hy
      rw [List.getElem?_map] at hx hy
      obtain ⟨a, ha, rfl⟩ := Option.map_eq_some_iff.mp hx
      obtain ⟨b, hb, rfl⟩ := Option.map_eq_some_iff.mp hy
      have hp := pairs_at ha hb
      refine x_gtup2 upd_same ?_
      walk_at "rd"
      unfold tYes
      refine x_T ?_
      walk_at "rd"
      refine ⟨Sum.inl a, rfl, upd_new h3 nT, ?_, ⟨?_, same_put s3 nT hD2⟩⟩
      · rw [kI_len]
        have h1 := behF_len ((pairs R).take i)
        rw [List.length_take] at h1
        have h2 := pairs_len R
        rw [List.length_map] at h2
        have h3 := sm.s3
        have := big5
        omega
      · rw [upd_same, putK_kI, behF_take hp]
    · rintro H17 ⟨hbh, s3⟩
      rw [List.take_length] at hbh
      replace hbh : H17 D2 = some (.dK (kI V.int (behM R))) := hbh
      have i16 := i15.same s3
      replace hmo := s3 _ _ hmo
      replace hpr := s3 _ _ hpr
      clear i15 s3 eD e2 hD2
      walk_at "rd"
      have xbh : D2 ≠ x := ne_of hbh i16.ob fun z => by cases z
      refine i16.put T.pg (by decide +kernel) (Nat.le_of_ble_eq_true rfl) fun H18 i17 k17 => ?_
      replace hmo := k17 _ _ xmo hmo
      replace hpr := k17 _ _ xpr hpr
      replace hbh := k17 _ _ xbh hbh
      clear i16 k17
      have r17 := i17.rd
      walk_at "rd"
      refine ⟨ad 2, _, r17.t2, trivial, fun od => ?_⟩
      refine x_iitems ?_
      walk_at "rd"
      obtain ⟨dxr, hobr⟩ := r17.ob
      refine r_rdO (by rw [upd_ne (r17.np 2 (by decide))]; exact hobr) T.rd (by decide +kernel) rfl ?_
      refine ⟨ad 2, od, _, rfl, upd_same, fun D3 hD3 => ?_⟩
      have hf4 : D3 ≠ ad 4 := fun z => by
        rw [z, upd_ne fun q => absurd (r17.inj 4 2 (by decide) (by decide) q) (by decide), r17.t4] at hD3
        cases hD3
      have hbhL := keepX (u := .frz od (.dK (kS V.int R.routines))) hbh hb2
      have hobL := keepX (u := .frz od (.dK (kS V.int R.routines))) i17.ob (xa 2 (by decide))
      refine dc_it walk_items (fun i H3 => Hold (H3 D3 = some (.dK (kS V.int (firF (behM R) (R.routines.take i)))) ∧ Same (upd H18 (ad 2) (.frz od (.dK (kS V.int R.routines)))) H3)) ⟨upd_same, same_upd hD3⟩ (fun i H3 _ ⟨_, s⟩ => s _ _ upd_same) ?_ ?_
      · rintro i v H3 H4 hi ⟨h3, s3⟩ ⟨T1, vx, vy, rfl, nT, rfl, hx, hy⟩
        replace hx : (kS V.int R.routines)[i]?.map (fun kv => kV kv.1) = some vx := hx
        replace hy : (kS V.int R.routines)[i]?.map Prod.snd = some vy := hy
        unfold kS at hx hy
        rw [List.getElem?_map] at hx hy
        cases hc : R.routines[i]? with
        | none => rw [hc] at hx; cases hx
        | some c =>
          rw [hc] at hx hy
          cases hx
          cases hy
          obtain ⟨n, hn⟩ := Option.isSome_iff_exists.mp (hfir c (List.mem_of_getElem? hc))
          have sT := s3.trans (same_upd (o := .tup [V.str c.1, V.int c.2]) nT)
          refine x_gtup2 upd_same ?_
          walk_at "rd"
          unfold tYes
          refine x_T ?_
          walk_at "rd"
          refine ⟨x, CP, dx, _, _, rfl, sT _ _ hobL, T.pg.cl, T.pg.na _ (by decide +kernel), rfl, ?_⟩
          walk_at "rd"
          refine r_getI (sT _ _ hbhL) hn ?_
          refine ⟨_, Sum.inr c.1, rfl, upd_new h3 nT, ?_, ⟨?_, same_put s3 nT hD3⟩⟩
          · rw [kS_len]
            have h1 := firF_len (behM R) (R.routines.take i)
            rw [List.length_take] at h1
            have h3 := sm.s2
            have := big5
            omega
          · rw [upd_same, putK_kS, firF_take hc, hn]
            rfl
      · rintro H19 ⟨hfh, s3⟩
        rw [kS_len, List.take_length] at hfh
        have e2 : H19 (ad 2) = some (.frz od (.dK (kS V.int R.routines))) := s3 _ _ upd_same
        refine ⟨e2, ?_⟩
        have s4 := same_unlock r17.t2 s3
        replace hfh : upd H19 (ad 2) (.dK (kS V.int R.routines)) D3 = some (.dK (kS V.int (firM R))) := by
          rw [upd_ne (ne_of hfh e2 fun z => by cases z)]
          exact hfh
        generalize upd H19 (ad 2) _ = H20 at s4 hfh ⊢
        have i18 := i17.same s4
        replace hmo := s4 _ _ hmo
        replace hpr := s4 _ _ hpr
        replace hbh := s4 _ _ hbh
        clear i17 r17 s4 s3 e2 hobL hbhL hobr
        have xfh : D3 ≠ x := ne_of hfh i18.ob fun z => by cases z
        walk_at "rd"
        refine i18.put T.pg (by decide +kernel) (Nat.le_of_ble_eq_true rfl) fun H21 i19 k19 => ?_
        replace hmo := k19 _ _ xmo hmo
        replace hpr := k19 _ _ xpr hpr
        replace hbh := k19 _ _ xbh hbh
        replace hfh := k19 _ _ xfh hfh
        walk_at "rd"
        exact kq ad mo pr D2 D3 _ i19.fr ⟨⟨dx, i19.ob⟩, hmo, hpr, hbh, hfh, fun j hj _ => i19.rd.tab j (Nat.lt_of_lt_of_le hj (by decide)), .inl i19.rd.t4, ⟨fun j hj h4 q => h4 (i19.rd.inj j 4 (Nat.lt_of_lt_of_le hj (by decide)) (by decide) q), hb4, hf4⟩, i19.rd.ne⟩ i19.rd.t4
end
end MP
end
section
namespace MP
open PySem L2
/-! ### the law's own reader, as plain functions -/
structure LS where
  modes : List (Str × List Str)
  starts : List Str
  procs : List Str
  stack : List Str
  called : List Str
def LS.empty : LS := ⟨[], [], [], [], []⟩
section
variable (nm pr : Str → Bool)
def lModeOk (S : LS) : List Str → Bool
  | _ :: n :: r => S.procs.isEmpty && decide (2 ≤ r.length) && decide (r.length % 2 = 0) && decide (r.length ≤ 12) && nm n && !(look S.modes n).isSome && !decide (S.modes.length = 6) && (ev r).all nm && decide (ev r).Nodup && (ev r.tail).all pr
  | _ => false
def lModeSt (S : LS) : List Str → LS
  | _ :: n :: r => { S with modes := S.modes ++ [(n, ev r)] }
  | _ => S
def lStartOk (S : LS) : List Str → Bool
  | [_, m, v] => S.procs.isEmpty && (look S.modes m).isSome && !decide (m ∈ S.starts) && (match look S.modes m with | some vs => decide (v ∈ vs) | none => false)
  | _ => false
def lStartSt (S : LS) : List Str → LS
  | [_, m, _] => { S with starts := S.starts ++ [m] }
  | _ => S
def lItems (sp : Str → List Str) (S : LS) : List Str → List Str → Bool
  | [], _ => true
  | x :: r, seen => match sp x with
    | [a, b] => (match look S.modes a with
      | none => false
      | some vs => !decide (a ∈ seen) && (decide (b = ("?" : Str)) || decide (b ∈ vs)) && lItems sp S r (seen ++ [a]))
    | _ => false
def lDoOk (sp : Str → List Str) (S : LS) : List Str → Bool
  | _ :: n :: r => decide (r.length ≤ 6) && nm n && lItems sp S r []
  | _ => false
def lInsOk (sp : Str → List Str) (S : LS) : List Str → Bool
  | [] => false
  | k :: r => if S.stack = [] then false else if k = ("do" : Str) then lDoOk nm sp S (k :: r) else if k = ("call" : Str) then okCall nm r else if ¬ r = [] then false else
    if k ∈ (["either", "loop", "ever"] : List Str) then decide (S.stack.length + 1 ≤ 9) else if k = ("end" : Str) then true else if k = ("or" : Str) then decide (S.stack.getLast? = some ("either" : Str)) else
    decide (k ∈ (["back", "stop"] : List Str)) || (decide (k = ("leave" : Str)) && decide (("ever" : Str) ∈ S.stack))
def lInsSt (S : LS) : List Str → LS
  | [] => S
  | k :: r => if k = ("do" : Str) then S else if k = ("call" : Str) then { S with called := S.called ++ [((k :: r).getLast?).getD ""] } else
    if k ∈ (["either", "loop", "ever"] : List Str) then { S with stack := S.stack ++ [k] } else if k = ("end" : Str) then { S with stack := S.stack.dropLast } else S
def lProcOk (S : LS) : List Str → Bool
  | [_, n] => S.stack.isEmpty && nm n && !decide (n ∈ S.procs) && decide (S.procs.length + 1 ≤ 6)
  | _ => false
def lProcSt (S : LS) : List Str → LS
  | [_, n] => { S with procs := S.procs ++ [n], stack := S.stack ++ [("proc" : Str)] }
  | _ => S
def lLineOk (sp : Str → List Str) (S : LS) : List Str → Bool
  | [] => false
  | k :: r => if k = ("mode" : Str) then lModeOk nm pr S (k :: r) else if k = ("start" : Str) then lStartOk S (k :: r) else if k = ("proc" : Str) then lProcOk nm S (k :: r) else lInsOk nm sp S (k :: r)
def lLineSt (S : LS) : List Str → LS
  | [] => S
  | k :: r => if k = ("mode" : Str) then lModeSt S (k :: r) else if k = ("start" : Str) then lStartSt S (k :: r) else if k = ("proc" : Str) then lProcSt S (k :: r) else lInsSt S (k :: r)
/-- the first wrong line, or what is known at the end -/
def lRun (sp wd : Str → List Str) : List Str → LS → Int → Int ⊕ LS
  | [], S, _ => .inr S
  | row :: rows, S, l => if wd row = [] then lRun sp wd rows S (l + 1) else if lLineOk nm pr sp S (wd row) = true then lRun sp wd rows (lLineSt S (wd row)) (l + 1) else .inl l
end
def lEnd (S : LS) : Prop := S.stack = [] ∧ ("main" : Str) ∈ S.procs ∧ ∀ c ∈ S.called, c ∈ S.procs
instance (S : LS) : Decidable (lEnd S) := by unfold lEnd; infer_instance
/-! ### both readers are one -/
def stackOf (R : RdM) : List Str := match R.owner with
  | none => []
  | some _ => ("proc" : Str) :: R.blocks.map fun b => (look R.kinds b).getD ("" : Str)
structure Abs (nm : Str → Bool) (line : Int) (R : RdM) (S : LS) : Prop where
  mo : R.modes.map (fun x => (x.1, x.2.2.map (·.1))) = S.modes
  st : R.begins.map (·.1) = S.starts
  pr : R.routines.map (·.1) = S.procs
  sk : stackOf R = S.stack
  bl : R.owner = none → R.blocks = []
  ca : R.calls.map (·.2) = S.called
  kb : ∀ b ∈ R.blocks, b < line ∧ ∃ k, look R.kinds b = some k ∧ k ∈ (["either", "loop", "ever"] : List Str)
  nm : ∀ m ∈ S.modes, nm m.1 = true ∧ ∀ v ∈ m.2, nm v = true
  kl : ∀ x ∈ R.kinds, x.1 < line
  cl : ∀ x ∈ R.calls, x.1 < line
  ro : ∀ y ∈ R.routines, y.2 ∈ R.kinds.map (·.1)
  rb : R.owner = none → ∀ y ∈ R.routines, y.2 ∈ (R.kinds.map (·.1)).dropLast
  b8 : R.blocks.length ≤ 8
  p6 : R.routines.length ≤ 6
theorem Abs.start (nm : Str → Bool) (l : Int) : Abs nm l RdM.empty LS.empty := by
  constructor
  all_goals first
    | rfl
    | exact Nat.zero_le _
    | (intro _; rfl)
    | exact fun _ x hx => absurd hx List.not_mem_nil
    | exact fun x hx => absurd hx List.not_mem_nil
theorem look_key {κ α β : Type} [DecidableEq κ] {f : κ × α → κ × β} (hf : ∀ x, (f x).1 = x.1) (k : κ) : ∀ l : List (κ × α), look (l.map f) k = (look l k).map fun v => (f (k, v)).2
  | [] => rfl
  | x :: r => by
    show (if (f x).1 = k then _ else _) = _
    rw [hf]
    show _ = (if x.1 = k then some x.2 else look r k).map _
    by_cases e : x.1 = k
    · rw [if_pos e, if_pos e]
      show some (f x).2 = some (f (k, x.2)).2
      rw [← e]
    · rw [if_neg e, if_neg e]
      exact look_key hf k r
theorem look_isSome {κ α : Type} [DecidableEq κ] (k : κ) : ∀ l : List (κ × α), (look l k).isSome = decide (k ∈ l.map (·.1))
  | [] => rfl
  | x :: r => by
    unfold look
    by_cases e : x.1 = k
    · rw [if_pos e]
      simp [e]
    · rw [if_neg e, look_isSome k r]
      simp [Ne.symm e]
theorem Abs.modeAt {nm : Str → Bool} {line : Int} {R : RdM} {S : LS} (a : Abs nm line R S) (m : Str) : look S.modes m = (look R.modes m).map fun v => v.2.map (·.1) := by
  rw [← a.mo]
  exact look_key (f := fun x : Str × Addr × List (Str × Int) => (x.1, x.2.2.map (·.1))) (fun _ => rfl) m R.modes
theorem Abs.modeS {nm : Str → Bool} {line : Int} {R : RdM} {S : LS} (a : Abs nm line R S) (m : Str) : (look S.modes m).isSome = (look R.modes m).isSome := by
  rw [a.modeAt]
  exact Option.isSome_map
theorem Abs.later {nm : Str → Bool} {line : Int} {R : RdM} {S : LS} (a : Abs nm line R S) : Abs nm (line + 1) R S :=
  ⟨a.mo, a.st, a.pr, a.sk, a.bl, a.ca, fun b hb => ⟨by have := (a.kb b hb).1; omega, (a.kb b hb).2⟩, a.nm, fun x hx => by have := a.kl x hx; omega, fun x hx => by have := a.cl x hx; omega, a.ro, a.rb, a.b8, a.p6⟩
theorem isE_map {α β : Type} (f : α → β) (l : List α) : l.isEmpty = (l.map f).isEmpty := by cases l <;> rfl
theorem Abs.procE {nm : Str → Bool} {line : Int} {R : RdM} {S : LS} (a : Abs nm line R S) : R.routines.isEmpty = S.procs.isEmpty := by
  rw [← a.pr]
  exact isE_map (·.1) R.routines
theorem Abs.stackE {nm : Str → Bool} {line : Int} {R : RdM} {S : LS} (a : Abs nm line R S) : S.stack = [] ↔ R.owner = none := by
  rw [← a.sk]
  unfold stackOf
  cases R.owner with
  | none => simp
  | some o => simp
/-! mode lines -/
theorem putG_end {κ α : Type} [DecidableEq κ] {l : List (κ × α)} {k : κ} {v : α} (h : (look l k).isSome = false) : putG l k v = l ++ [(k, v)] := if_neg (by rw [h]; decide)
theorem modeItems_eq {nm pr : Str → Bool} {val : Str → Int} : ∀ (r : List Str) (acc : List (Str × Int)), r.length % 2 = 0 → (acc.map (·.1)).Nodup →
    ((ev r).all nm && decide ((acc.map fun x : Str × Int => x.1) ++ ev r).Nodup && (ev r.tail).all pr) = (modeItems nm pr val r acc).isSome ∧ ∀ vs, modeItems nm pr val r acc = some vs → vs.map (·.1) = acc.map (·.1) ++ ev r
  | [], acc, _, hn => by
    refine ⟨?_, fun vs h => ?_⟩
    · show (true && decide ((acc.map fun x : Str × Int => x.1) ++ []).Nodup && true) = true
      rw [List.append_nil, decide_eq_true hn]
      rfl
    · cases (show some acc = some vs from h)
      exact (List.append_nil _).symm
  | [_], _, h, _ => by simp only [List.length_cons, List.length_nil] at h; omega
  | v :: p :: r, acc, h, hn => by
    have hr : r.length % 2 = 0 := by simp only [List.length_cons] at h; omega
    have e1 : ev (v :: p :: r) = v :: ev r := rfl
    have e2 : ev (v :: p :: r).tail = p :: ev r.tail := by
      cases r with
      | nil => rfl
      | cons a t => rfl
    have hm : modeItems nm pr val (v :: p :: r) acc = if (nm v && !(look acc v).isSome && pr p) = true then modeItems nm pr val r (putG acc v (val p)) else none := rfl
    rw [e1, e2, hm]
    by_cases hc : (nm v && !(look acc v).isSome && pr p) = true
    · rw [if_pos hc]
      simp only [Bool.and_eq_true, Bool.not_eq_true'] at hc
      obtain ⟨⟨c1, c2⟩, c3⟩ := hc
      have hk : (putG acc v (val p)).map (·.1) = acc.map (·.1) ++ [v] := by rw [putG_end c2, List.map_append]; rfl
      have hv : v ∉ acc.map (·.1) := by
        have := look_isSome v acc
        rw [c2] at this
        exact of_decide_eq_false this.symm
      have hn2 : ((putG acc v (val p)).map (·.1)).Nodup := by
        rw [hk]
        exact List.nodup_append.mpr ⟨hn, by simp, fun a ha b hb z => hv (by rw [List.mem_singleton.mp hb] at z; rw [← z]; exact ha)⟩
      obtain ⟨i1, i2⟩ := modeItems_eq (nm := nm) (pr := pr) (val := val) r (putG acc v (val p)) hr hn2
      refine ⟨?_, fun vs hvs => ?_⟩
      · rw [← i1, hk, List.append_assoc, List.all_cons, List.all_cons, c1, c3]
        rfl
      · rw [i2 vs hvs, hk, List.append_assoc]
        rfl
    · rw [if_neg hc]
      refine ⟨?_, fun vs hvs => by cases hvs⟩
      simp only [Option.isSome_none]
      rw [List.all_cons, List.all_cons]
      cases c1 : nm v with
      | false => rfl
      | true =>
        cases c3 : pr p with
        | false => simp
        | true =>
          have c2 : (look acc v).isSome = true := by
            cases c2 : (look acc v).isSome with
            | true => rfl
            | false => exact absurd (by rw [c1, c2, c3]; rfl) hc
          have hv : v ∈ acc.map (·.1) := by
            have := look_isSome v acc
            rw [c2] at this
            exact of_decide_eq_true this.symm
          have : ¬ (acc.map (·.1) ++ v :: ev r).Nodup := fun z => (List.nodup_append.mp z).2.2 v hv v List.mem_cons_self rfl
          rw [decide_eq_false this]
          simp
section
variable {nm pr : Str → Bool} {val : Str → Int} {line : Int} {R : RdM} {S : LS} {q : Addr}
theorem Abs.mode (a : Abs nm line R S) (ws : List Str) : okMode nm pr val R ws = lModeOk nm pr S ws := by
  match ws with
  | [] => rfl
  | [_] => rfl
  | w0 :: n :: r =>
    have hl : R.modes.length = S.modes.length := by rw [← a.mo, List.length_map]
    have hmn := a.modeS n
    show (decide (2 ≤ r.length) && decide (r.length % 2 = 0) && decide (r.length ≤ 12) && R.routines.isEmpty && nm n && !(look R.modes n).isSome && !decide (R.modes.length = 6) && (modeItems nm pr val r []).isSome) = (S.procs.isEmpty && decide (2 ≤ r.length) && decide (r.length % 2 = 0) && decide (r.length ≤ 12) && nm n && !(look S.modes n).isSome && !decide (S.modes.length = 6) && (ev r).all nm && decide (ev r).Nodup && (ev r.tail).all pr)
    rw [a.procE, hl, hmn]
    by_cases he : r.length % 2 = 0
    · have h := (modeItems_eq (nm := nm) (pr := pr) (val := val) r [] he List.nodup_nil).1
      rw [← h]
      show _ = _
      simp only [List.map_nil, List.nil_append]
      generalize S.procs.isEmpty = b1
      generalize decide (2 ≤ r.length) = b2
      generalize decide (r.length % 2 = 0) = b3
      generalize decide (r.length ≤ 12) = b4
      generalize nm n = b5
      generalize (!(look R.modes n).isSome) = b6
      generalize (!decide (S.modes.length = 6)) = b7
      generalize (ev r).all nm = b8
      generalize decide (ev r).Nodup = b9
      generalize (ev r.tail).all pr = b10
      cases b1 <;> cases b2 <;> cases b3 <;> cases b4 <;> cases b5 <;> cases b6 <;> cases b7 <;> simp [Bool.and_assoc]
    · rw [decide_eq_false he]
      simp
/-- the same when the line's kind is noted -/
structure AbsN (nm : Str → Bool) (line : Int) (k : Str) (R : RdM) (S : LS) : Prop where
  a : Abs nm (line + 1) R S
  hk : look R.kinds line = some k
  rbA : ∀ y ∈ R.routines, y.2 ∈ (R.kinds.map (·.1)).dropLast
  cl2 : ∀ x ∈ R.calls, x.1 < line
theorem key_none {α : Type} {l : List (Int × α)} {line : Int} (h : ∀ x ∈ l, x.1 < line) : (look l line).isSome = false := by
  rw [look_isSome]
  exact decide_eq_false fun z => by
    obtain ⟨x, hx, e⟩ := List.mem_map.mp z
    have := h x hx
    omega
theorem keys_new {l : List (Int × Str)} {line : Int} {k : Str} (h : ∀ x ∈ l, x.1 < line) : (putG l line k).map (·.1) = l.map (·.1) ++ [line] := by
  rw [putG_end (key_none h), List.map_append]
  rfl
theorem Abs.note (a : Abs nm line R S) (k : Str) : AbsN nm line k (noteK R line k) S := by
  have hkn : ∀ b, b < line → look (putG R.kinds line k) b = look R.kinds b := fun b hb => by
    rw [look_putG, if_neg fun z => by omega]
  have hks := keys_new (k := k) a.kl
  have hro : ∀ y ∈ R.routines, y.2 ∈ ((putG R.kinds line k).map (·.1)).dropLast := fun y hy => by
    rw [hks, List.dropLast_concat]
    exact a.ro y hy
  refine ⟨⟨a.mo, a.st, a.pr, ?_, a.bl, a.ca, fun b hb => ?_, a.nm, fun x hx => ?_, fun x hx => ?_, fun y hy => ?_, fun _ => hro, a.b8, a.p6⟩, ?_, hro, a.cl⟩
  · rw [← a.sk]
    unfold stackOf
    show (match R.owner with | none => [] | some _ => ("proc" : Str) :: R.blocks.map fun b => (look (putG R.kinds line k) b).getD ("" : Str)) = _
    cases R.owner with
    | none => rfl
    | some o =>
      show ("proc" : Str) :: _ = ("proc" : Str) :: _
      congr 1
      refine List.map_congr_left fun b hb => ?_
      rw [hkn b (a.kb b hb).1]
  · obtain ⟨h1, kk, h2, h3⟩ := a.kb b hb
    exact ⟨by omega, kk, (hkn b h1).trans h2, h3⟩
  · rcases mem_putG hx with rfl | hx
    · show line < line + 1
      omega
    · have := a.kl x hx
      omega
  · have := a.cl x hx
    omega
  · exact List.dropLast_subset _ (hro y hy)
  · show look (putG R.kinds line k) line = some k
    rw [look_putG, if_pos rfl]
theorem AbsN.own (a : AbsN nm line k R S) (w : List (Int × Str)) : AbsN nm line k { R with owners := w } S :=
  ⟨⟨a.a.mo, a.a.st, a.a.pr, a.a.sk, a.a.bl, a.a.ca, a.a.kb, a.a.nm, a.a.kl, a.a.cl, a.a.ro, a.a.rb, a.a.b8, a.a.p6⟩, a.hk, a.rbA, a.cl2⟩
variable {k : Str}
theorem AbsN.modeSt (a : AbsN nm line k R S) {ws : List Str} (h : okMode nm pr val R ws = true) : Abs nm (line + 1) (stMode nm pr val R q ws) (lModeSt S ws) := by
  match ws, h with
  | [], h => cases h
  | [_], h => cases h
  | w0 :: n :: r, h =>
    replace h : (decide (2 ≤ r.length) && decide (r.length % 2 = 0) && decide (r.length ≤ 12) && R.routines.isEmpty && nm n && !(look R.modes n).isSome && !decide (R.modes.length = 6) && (modeItems nm pr val r []).isSome) = true := h
    simp only [Bool.and_eq_true, Bool.not_eq_true', decide_eq_true_eq] at h
    obtain ⟨⟨⟨⟨⟨⟨⟨_, he⟩, _⟩, _⟩, hn⟩, hl⟩, _⟩, hs⟩ := h
    obtain ⟨vs, hv⟩ := Option.isSome_iff_exists.mp hs
    have h1 := modeItems_eq (nm := nm) (pr := pr) (val := val) r [] he List.nodup_nil
    have h2 := h1.2 vs hv
    have h3 := h1.1
    rw [hs] at h3
    simp only [Bool.and_eq_true, List.all_eq_true] at h3
    have es : stMode nm pr val R q (w0 :: n :: r) = { R with modes := putG R.modes n (q, vs) } := by
      unfold stMode
      simp only [hv]
    rw [es]
    have b := a.a
    refine ⟨?_, b.st, b.pr, b.sk, b.bl, b.ca, b.kb, fun m hm => ?_, b.kl, b.cl, b.ro, b.rb, b.b8, b.p6⟩
    · show (putG R.modes n (q, vs)).map _ = S.modes ++ [(n, ev r)]
      rw [putG_end hl, List.map_append, b.mo]
      show _ ++ [(n, vs.map (·.1))] = _
      rw [h2]
      rfl
    · rcases List.mem_append.mp hm with hm | hm
      · exact b.nm m hm
      · rw [List.mem_singleton.mp hm]
        exact ⟨hn, fun v hv => h3.1.1 v hv⟩
theorem AbsN.start (a : AbsN nm line k R S) (ws : List Str) : okStart R ws = lStartOk S ws := by
  match ws with
  | [] => rfl
  | [_] => rfl
  | [_, _] => rfl
  | [_, m, v] =>
    have e1 := a.a.modeS m
    have e2 := a.a.modeAt m
    have e3 : (look R.begins m).isSome = decide (m ∈ S.starts) := by rw [look_isSome, a.a.st]
    show (R.routines.isEmpty && (look R.modes m).isSome && !(look R.begins m).isSome && (match look R.modes m with | some x => (look x.2 v).isSome | none => false)) = (S.procs.isEmpty && (look S.modes m).isSome && !decide (m ∈ S.starts) && (match look S.modes m with | some vs => decide (v ∈ vs) | none => false))
    rw [a.a.procE, e1, e3, e2]
    cases look R.modes m with
    | none => rfl
    | some x =>
      show _ = (_ && decide (v ∈ x.2.map (·.1)))
      rw [← look_isSome]
  | _ :: _ :: _ :: _ :: _ => rfl
theorem AbsN.startSt (a : AbsN nm line k R S) {ws : List Str} (h : okStart R ws = true) : Abs nm (line + 1) (stStart R ws) (lStartSt S ws) := by
  match ws, h with
  | [_, m, v], h =>
    replace h : (R.routines.isEmpty && (look R.modes m).isSome && !(look R.begins m).isSome && (match look R.modes m with | some x => (look x.2 v).isSome | none => false)) = true := h
    simp only [Bool.and_eq_true, Bool.not_eq_true'] at h
    have b := a.a
    refine ⟨b.mo, ?_, b.pr, b.sk, b.bl, b.ca, b.kb, b.nm, b.kl, b.cl, b.ro, b.rb, b.b8, b.p6⟩
    show (putG R.begins m v).map _ = S.starts ++ [m]
    rw [putG_end h.1.2, List.map_append, b.st]
    rfl
theorem Abs.ownE (a : Abs nm line R S) : R.owner.isNone = S.stack.isEmpty := by
  have h := a.stackE
  cases ho : R.owner with
  | none =>
    rw [h.mpr ho]
    rfl
  | some o =>
    cases hs : S.stack with
    | nil => rw [h.mp hs] at ho; cases ho
    | cons x y => rfl
theorem AbsN.proc (a : AbsN nm line k R S) (ws : List Str) : okProc nm R ws = lProcOk nm S ws := by
  match ws with
  | [] => rfl
  | [_] => rfl
  | [_, n] =>
    have e3 : (look R.routines n).isSome = decide (n ∈ S.procs) := by rw [look_isSome, a.a.pr]
    have hl : R.routines.length = S.procs.length := by rw [← a.a.pr, List.length_map]
    have h6 := a.a.p6
    show (R.owner.isNone && nm n && !(look R.routines n).isSome && !decide (R.routines.length = 6)) = (S.stack.isEmpty && nm n && !decide (n ∈ S.procs) && decide (S.procs.length + 1 ≤ 6))
    rw [a.a.ownE, e3, hl]
    have : (!decide (S.procs.length = 6)) = decide (S.procs.length + 1 ≤ 6) := by
      by_cases z : S.procs.length = 6
      · rw [decide_eq_true z, decide_eq_false (by omega)]
        rfl
      · rw [decide_eq_false z, decide_eq_true (by omega)]
        rfl
    rw [this]
  | _ :: _ :: _ :: _ => rfl
theorem AbsN.procSt (a : AbsN nm line k R S) {ws : List Str} (h : okProc nm R ws = true) : Abs nm (line + 1) (stProc R line ws) (lProcSt S ws) := by
  match ws, h with
  | [_, n], h =>
    replace h : (R.owner.isNone && nm n && !(look R.routines n).isSome && !decide (R.routines.length = 6)) = true := h
    simp only [Bool.and_eq_true, Bool.not_eq_true', decide_eq_false_iff_not, Option.isNone_iff_eq_none] at h
    obtain ⟨⟨⟨ho, _⟩, hl⟩, h6⟩ := h
    have b := a.a
    have hb := b.bl ho
    have hs := b.stackE.mpr ho
    refine ⟨b.mo, b.st, ?_, ?_, fun z => (nomatch z), b.ca, b.kb, b.nm, b.kl, b.cl, fun y hy => ?_, fun z => (nomatch z), b.b8, ?_⟩
    · show (putG R.routines n line).map _ = S.procs ++ [n]
      rw [putG_end hl, List.map_append, b.pr]
      rfl
    · show ("proc" : Str) :: R.blocks.map _ = S.stack ++ [("proc" : Str)]
      rw [hb, hs]
      rfl
    · rcases mem_putG hy with rfl | hy
      · have := look_isSome line R.kinds
        rw [a.hk] at this
        exact of_decide_eq_true this.symm
      · exact b.ro y hy
    · have := putG_len R.routines n line
      have := b.p6
      show (putG R.routines n line).length ≤ 6
      omega
/-! lines inside -/
theorem doItems_eq (a : Abs nm line R S) {it : Str → Option (Str × Str)} {sp : Str → List Str} (hit : ∀ x, it x = match sp x with | [u, v] => if (nm u && (decide (v = ("?" : Str)) || nm v)) = true then some (u, v) else none | _ => none) :
    ∀ (r : List Str) (acc : List (Str × Str)), (doItems it R r acc).isSome = lItems sp S r (acc.map (·.1))
  | [], acc => rfl
  | x :: r, acc => by
    unfold doItems lItems
    rw [hit x]
    match sp x with
    | [] => rfl
    | [_] => rfl
    | [u, v] =>
      show (match (if (nm u && (decide (v = ("?" : Str)) || nm v)) = true then some (u, v) else none : Option (Str × Str)) with | none => none | some (m, w) => _).isSome = _
      have e2 := a.modeAt u
      cases hm : look R.modes u with
      | none =>
        rw [hm] at e2
        show _ = (match look S.modes u with | none => false | some vs => _)
        rw [e2]
        by_cases z : (nm u && (decide (v = ("?" : Str)) || nm v)) = true
        · rw [if_pos z]
          show (match look R.modes u with | none => none | some d => _).isSome = _
          rw [hm]
          rfl
        · rw [if_neg z]
          rfl
      | some d =>
        rw [hm] at e2
        have hs := a.nm _ (look_mem e2)
        show _ = (match look S.modes u with | none => false | some vs => _)
        rw [e2]
        show _ = (!decide (u ∈ acc.map (·.1)) && (decide (v = ("?" : Str)) || decide (v ∈ d.2.map (·.1))) && lItems sp S r (acc.map (·.1) ++ [u]))
        rw [← look_isSome, ← look_isSome]
        have hu : nm u = true := hs.1
        have hvv : (look d.2 v).isSome = true → nm v = true := fun z => by
          rw [look_isSome] at z
          exact hs.2 v (of_decide_eq_true z)
        by_cases z : (nm u && (decide (v = ("?" : Str)) || nm v)) = true
        · rw [if_pos z]
          show (match look R.modes u with | none => none | some d => if (look acc u).isSome = true then none else if (!decide (v = ("?" : Str)) && !(look d.2 v).isSome) = true then none else doItems it R r (putG acc u v)).isSome = _
          rw [hm]
          show (if (look acc u).isSome = true then none else if (!decide (v = ("?" : Str)) && !(look d.2 v).isSome) = true then none else doItems it R r (putG acc u v)).isSome = _
          cases h1 : (look acc u).isSome with
          | true => rfl
          | false =>
            rw [if_neg (by decide)]
            have hk : (putG acc u v).map (·.1) = acc.map (·.1) ++ [u] := by rw [putG_end h1, List.map_append]; rfl
            cases h2 : (decide (v = ("?" : Str)) || (look d.2 v).isSome) with
            | true =>
              rw [if_neg (by rw [← Bool.not_or, h2]; decide), doItems_eq a hit r (putG acc u v), hk]
              rfl
            | false =>
              rw [if_pos (by rw [← Bool.not_or, h2]; rfl)]
              rfl
        · rw [if_neg z]
          have h2 : (decide (v = ("?" : Str)) || (look d.2 v).isSome) = false := by
            cases h3 : (look d.2 v).isSome with
            | true => exact absurd (by rw [hu, hvv h3]; simp) z
            | false =>
              cases h4 : decide (v = ("?" : Str)) with
              | true => exact absurd (by rw [hu, h4]; rfl) z
              | false => rfl
          rw [h2]
          simp
    | _ :: _ :: _ :: _ => rfl
theorem AbsN.endSt (a : AbsN nm line k R S) (ho : R.owner ≠ none) : Abs nm (line + 1) (stEnd R line) { S with stack := S.stack.dropLast } := by
  have b := a.a
  obtain ⟨o, ho⟩ := Option.ne_none_iff_exists'.mp ho
  have hsk : S.stack = ("proc" : Str) :: R.blocks.map fun b => (look R.kinds b).getD ("" : Str) := by
    rw [← b.sk]
    unfold stackOf
    rw [ho]
  unfold stEnd
  cases hg : R.blocks.getLast? with
  | none =>
    have hb : R.blocks = [] := List.getLast?_eq_none_iff.mp hg
    rw [ho]
    refine ⟨b.mo, b.st, b.pr, ?_, fun _ => hb, b.ca, b.kb, b.nm, b.kl, b.cl, b.ro, fun _ => a.rbA, b.b8, b.p6⟩
    show [] = S.stack.dropLast
    rw [hsk, hb]
    rfl
  | some first =>
    obtain ⟨ys, hy⟩ := List.getLast?_eq_some_iff.mp hg
    refine ⟨b.mo, b.st, b.pr, ?_, fun z => ?_, b.ca, fun x hx => b.kb x (List.dropLast_subset _ hx), b.nm, b.kl, b.cl, b.ro, b.rb, ?_, b.p6⟩
    · unfold stackOf
      show (match R.owner with | none => [] | some _ => ("proc" : Str) :: R.blocks.dropLast.map fun b => (look R.kinds b).getD ("" : Str)) = S.stack.dropLast
      rw [ho, hsk, hy, List.dropLast_concat, List.map_append]
      show _ = (("proc" : Str) :: (_ ++ [_])).dropLast
      rw [show ∀ (l : List Str) (x y : Str), (x :: (l ++ [y])) = (x :: l) ++ [y] from fun _ _ _ => rfl, List.dropLast_concat]
    · have hz : R.blocks = [] := b.bl z
      show R.blocks.dropLast = []
      rw [hz]
      rfl
    · show R.blocks.dropLast.length ≤ 8
      rw [List.length_dropLast]
      have := b.b8
      omega
theorem AbsN.orOk (a : AbsN nm line k R S) (ho : R.owner ≠ none) : okOr R = decide (S.stack.getLast? = some ("either" : Str)) := by
  have b := a.a
  obtain ⟨o, ho⟩ := Option.ne_none_iff_exists'.mp ho
  have hsk : S.stack = ("proc" : Str) :: R.blocks.map fun b => (look R.kinds b).getD ("" : Str) := by
    rw [← b.sk]
    unfold stackOf
    rw [ho]
  unfold okOr
  cases hg : R.blocks.getLast? with
  | none =>
    have hb : R.blocks = [] := List.getLast?_eq_none_iff.mp hg
    rw [hsk, hb]
    exact (decide_eq_false (show ¬ (some ("proc" : Str) = some ("either" : Str)) by decide +kernel)).symm
  | some first =>
    obtain ⟨ys, hy⟩ := List.getLast?_eq_some_iff.mp hg
    obtain ⟨_, kk, h2, h3⟩ := b.kb first (by rw [hy]; simp)
    show (match look R.kinds first with | some k => decide (k = ("either" : Str)) | none => false) = _
    rw [h2]
    have hgl : S.stack.getLast? = some kk := by
      rw [hsk, hy, List.map_append]
      show (("proc" : Str) :: (_ ++ [(look R.kinds first).getD ("" : Str)])).getLast? = _
      rw [h2, ← List.cons_append, List.getLast?_concat]
      rfl
    show decide (kk = _) = _
    by_cases z : kk = ("either" : Str)
    · rw [decide_eq_true z, decide_eq_true (by rw [hgl, z])]
    · rw [decide_eq_false z, decide_eq_false fun q => z (Option.some.inj (hgl.symm.trans q))]
theorem AbsN.orSt (a : AbsN nm line k R S) : Abs nm (line + 1) (stOr R line q) S := by
  have b := a.a
  have h : Abs nm (line + 1) R S → Abs nm (line + 1) (stOr R line q) S := fun b => by
    unfold stOr
    split
    · exact b
    · split
      · exact ⟨b.mo, b.st, b.pr, b.sk, b.bl, b.ca, b.kb, b.nm, b.kl, b.cl, b.ro, b.rb, b.b8, b.p6⟩
      · exact b
  exact h b
theorem AbsN.leaveOk (a : AbsN nm line k R S) (ho : R.owner ≠ none) : okLeave R = decide (("ever" : Str) ∈ S.stack) := by
  have b := a.a
  obtain ⟨o, ho⟩ := Option.ne_none_iff_exists'.mp ho
  have hsk : S.stack = ("proc" : Str) :: R.blocks.map fun b => (look R.kinds b).getD ("" : Str) := by
    rw [← b.sk]
    unfold stackOf
    rw [ho]
  unfold okLeave
  rw [List.any_reverse, hsk]
  rw [Bool.eq_iff_iff, List.any_eq_true, decide_eq_true_eq]
  refine ⟨fun ⟨x, hx, hv⟩ => ?_, fun hm => ?_⟩
  · refine List.mem_cons_of_mem _ (List.mem_map.mpr ⟨x, hx, ?_⟩)
    rw [of_decide_eq_true (p := look R.kinds x = some ("ever" : Str)) hv]
    rfl
  · rcases List.mem_cons.mp hm with hm | hm
    · exact absurd hm (by decide +kernel)
    · obtain ⟨x, hx, e⟩ := List.mem_map.mp hm
      refine ⟨x, hx, decide_eq_true ?_⟩
      obtain ⟨_, kk, h2, h3⟩ := b.kb x hx
      rw [h2] at e ⊢
      exact congrArg some e
theorem AbsN.leaveSt (a : AbsN nm line k R S) : Abs nm (line + 1) (stLeave R line) S := by
  have b := a.a
  unfold stLeave
  split
  · exact ⟨b.mo, b.st, b.pr, b.sk, b.bl, b.ca, b.kb, b.nm, b.kl, b.cl, b.ro, b.rb, b.b8, b.p6⟩
  · exact b
theorem AbsN.blockOk (a : AbsN nm line k R S) (ho : R.owner ≠ none) : okBlock R = decide (S.stack.length + 1 ≤ 9) := by
  have b := a.a
  obtain ⟨o, ho⟩ := Option.ne_none_iff_exists'.mp ho
  have hsk : S.stack = ("proc" : Str) :: R.blocks.map fun b => (look R.kinds b).getD ("" : Str) := by
    rw [← b.sk]
    unfold stackOf
    rw [ho]
  unfold okBlock
  have h8 := b.b8
  rw [hsk, List.length_cons, List.length_map]
  by_cases z : R.blocks.length = 8
  · rw [decide_eq_true z, decide_eq_false (by omega)]
    rfl
  · rw [decide_eq_false z, decide_eq_true (by omega)]
    rfl
theorem AbsN.blockSt (a : AbsN nm line k R S) (ho : R.owner ≠ none) (hk : k ∈ (["either", "loop", "ever"] : List Str)) (h : okBlock R = true) : Abs nm (line + 1) (stBlock R k line q) { S with stack := S.stack ++ [k] } := by
  have b := a.a
  obtain ⟨o, ho⟩ := Option.ne_none_iff_exists'.mp ho
  have hsk : S.stack = ("proc" : Str) :: R.blocks.map fun b => (look R.kinds b).getD ("" : Str) := by
    rw [← b.sk]
    unfold stackOf
    rw [ho]
  have h8 := b.b8
  have hl : R.blocks.length ≠ 8 := by
    unfold okBlock at h
    simpa using h
  have main : ∀ R' : RdM, R' = { R with blocks := R.blocks ++ [line] } → Abs nm (line + 1) R' { S with stack := S.stack ++ [k] } := by
    rintro R' rfl
    refine ⟨b.mo, b.st, b.pr, ?_, fun z => ?_, b.ca, fun x hx => ?_, b.nm, b.kl, b.cl, b.ro, b.rb, ?_, b.p6⟩
    · unfold stackOf
      show (match R.owner with | none => [] | some _ => ("proc" : Str) :: (R.blocks ++ [line]).map fun b => (look R.kinds b).getD ("" : Str)) = S.stack ++ [k]
      rw [ho, hsk, List.map_append]
      show ("proc" : Str) :: (_ ++ [(look R.kinds line).getD ("" : Str)]) = _
      rw [a.hk]
      rfl
    · have z2 : R.owner = none := z
      rw [ho] at z2
      cases z2
    · rcases List.mem_append.mp hx with hx | hx
      · exact b.kb x hx
      · rw [List.mem_singleton.mp hx]
        exact ⟨by omega, k, a.hk, hk⟩
    · show (R.blocks ++ [line]).length ≤ 8
      rw [List.length_append, List.length_singleton]
      omega
  unfold stBlock
  split
  · have m := main _ rfl
    exact ⟨m.mo, m.st, m.pr, m.sk, m.bl, m.ca, m.kb, m.nm, m.kl, m.cl, m.ro, m.rb, m.b8, m.p6⟩
  · exact main _ rfl
theorem AbsN.callSt (a : AbsN nm line k R S) {r : List Str} (h : okCall nm r = true) : Abs nm (line + 1) (stCall R line r) { S with called := S.called ++ [((k :: r).getLast?).getD ""] } := by
  match r, h with
  | [n], h =>
    have b := a.a
    refine ⟨b.mo, b.st, b.pr, b.sk, b.bl, ?_, b.kb, b.nm, b.kl, fun x hx => ?_, b.ro, b.rb, b.b8, b.p6⟩
    · show (putG R.calls line n).map _ = S.called ++ [n]
      rw [putG_end (key_none a.cl2), List.map_append, b.ca]
      rfl
    · rcases mem_putG hx with rfl | hx
      · show line < line + 1
        omega
      · exact b.cl x hx
theorem AbsN.doSt (a : AbsN nm line k R S) {it : Str → Option (Str × Str)} (ws : List Str) : Abs nm (line + 1) (stDo it R line q ws) S := by
  have b := a.a
  unfold stDo
  split
  · split
    · exact ⟨b.mo, b.st, b.pr, b.sk, b.bl, b.ca, b.kb, b.nm, b.kl, b.cl, b.ro, b.rb, b.b8, b.p6⟩
    · exact b
  · exact b
theorem AbsN.ins (a : AbsN nm line k R S) {it : Str → Option (Str × Str)} {sp : Str → List Str} (hit : ∀ x, it x = match sp x with | [u, v] => if (nm u && (decide (v = ("?" : Str)) || nm v)) = true then some (u, v) else none | _ => none)
    (ho : R.owner ≠ none) (r : List Str) : okIns nm it R (k :: r) = lInsOk nm sp S (k :: r) ∧ (okIns nm it R (k :: r) = true → Abs nm (line + 1) (stIns it R line q (k :: r)) (lInsSt S (k :: r))) := by
  have hst : ¬ S.stack = [] := fun z => ho (a.a.stackE.mp z)
  have e0 : lInsOk nm sp S (k :: r) = _ := if_neg hst
  rw [e0]
  clear e0
  by_cases h1 : k = ("do" : Str)
  · rw [if_pos h1, show okIns nm it R (k :: r) = okDo nm it R (k :: r) from if_pos h1, show stIns it R line q (k :: r) = stDo it R line q (k :: r) from if_pos h1, show lInsSt S (k :: r) = S from if_pos h1]
    refine ⟨?_, fun _ => a.doSt _⟩
    match r with
    | [] => rfl
    | n :: r =>
      show (decide (r.length ≤ 6) && nm n && (doItems it R r []).isSome) = (decide (r.length ≤ 6) && nm n && lItems sp S r [])
      rw [doItems_eq a.a hit r []]
      rfl
  rw [if_neg h1]
  by_cases h2 : k = ("call" : Str)
  · rw [if_pos h2, show okIns nm it R (k :: r) = okCall nm r from (if_neg h1).trans (if_pos h2), show stIns it R line q (k :: r) = stCall R line r from (if_neg h1).trans (if_pos h2), show lInsSt S (k :: r) = { S with called := S.called ++ [((k :: r).getLast?).getD ""] } from (if_neg h1).trans (if_pos h2)]
    exact ⟨rfl, fun h => a.callSt h⟩
  rw [if_neg h2]
  by_cases hr : ¬ r = []
  · rw [if_pos hr, show okIns nm it R (k :: r) = false from ((if_neg h1).trans (if_neg h2)).trans (if_pos hr)]
    exact ⟨rfl, fun h => by cases h⟩
  rw [if_neg hr]
  have n1 : ∀ {x : Bool}, okIns nm it R (k :: r) = x ↔ (if k = ("end" : Str) then true else if k = ("or" : Str) then okOr R else if k = ("leave" : Str) then okLeave R else if k ∈ (["either", "loop", "ever"] : List Str) then okBlock R else decide (k ∈ (["back", "stop"] : List Str))) = x := fun {x} => by
    rw [show okIns nm it R (k :: r) = _ from ((if_neg h1).trans (if_neg h2)).trans (if_neg hr)]
  have n1 := n1.mp rfl
  have n2 : stIns it R line q (k :: r) = _ := (if_neg h1).trans (if_neg h2)
  have n3 : lInsSt S (k :: r) = _ := (if_neg h1).trans (if_neg h2)
  rw [← n1, n2, n3]
  clear n1 n2 n3 h1 h2 hr
  by_cases h3 : k = ("end" : Str)
  · subst h3
    have z : ¬ ("end" : Str) ∈ (["either", "loop", "ever"] : List Str) := by decide +kernel
    rw [if_pos rfl, if_pos rfl, if_neg z, if_neg z, if_pos rfl, if_pos rfl]
    exact ⟨rfl, fun _ => a.endSt ho⟩
  by_cases h4 : k = ("or" : Str)
  · subst h4
    have z : ¬ ("or" : Str) ∈ (["either", "loop", "ever"] : List Str) := by decide +kernel
    rw [if_neg h3, if_neg h3, if_neg z, if_neg z, if_neg h3, if_neg h3, if_pos rfl, if_pos rfl, if_pos rfl]
    exact ⟨a.orOk ho, fun _ => a.orSt⟩
  by_cases h5 : k = ("leave" : Str)
  · subst h5
    have z : ¬ ("leave" : Str) ∈ (["either", "loop", "ever"] : List Str) := by decide +kernel
    have z2 : ¬ ("leave" : Str) ∈ (["back", "stop"] : List Str) := by decide +kernel
    rw [if_neg h3, if_neg h3, if_neg z, if_neg z, if_neg h3, if_neg h3, if_neg h4, if_neg h4, if_neg h4, if_pos rfl, if_pos rfl, decide_eq_false z2]
    refine ⟨?_, fun _ => a.leaveSt⟩
    rw [a.leaveOk ho]
    simp
  rw [if_neg h3, if_neg h3, if_neg h3, if_neg h4, if_neg h4, if_neg h4, if_neg h5, if_neg h5]
  by_cases h6 : k ∈ (["either", "loop", "ever"] : List Str)
  · rw [if_pos h6, if_pos h6, if_pos h6, if_pos h6]
    exact ⟨a.blockOk ho, fun h => a.blockSt ho h6 h⟩
  · rw [if_neg h6, if_neg h6, if_neg h6, if_neg h6, if_neg h3, decide_eq_false h5]
    refine ⟨by simp, fun _ => a.a⟩
theorem Abs.ln (a : Abs nm line R S) {it : Str → Option (Str × Str)} {sp : Str → List Str} (hit : ∀ x, it x = match sp x with | [u, v] => if (nm u && (decide (v = ("?" : Str)) || nm v)) = true then some (u, v) else none | _ => none)
    (ws : List Str) : okLine nm pr val it R line ws = lLineOk nm pr sp S ws ∧ (okLine nm pr val it R line ws = true → Abs nm (line + 1) (stLine nm pr val it R line q ws) (lLineSt S ws)) := by
  match ws with
  | [] => exact ⟨rfl, fun h => by cases h⟩
  | k :: r =>
    have b := a.note k
    by_cases h1 : k = ("mode" : Str)
    · rw [show okLine nm pr val it R line (k :: r) = okMode nm pr val (noteK R line k) (k :: r) from if_pos h1, show lLineOk nm pr sp S (k :: r) = lModeOk nm pr S (k :: r) from if_pos h1, show stLine nm pr val it R line q (k :: r) = stMode nm pr val (noteK R line k) q (k :: r) from if_pos h1, show lLineSt S (k :: r) = lModeSt S (k :: r) from if_pos h1]
      exact ⟨b.a.mode _, fun h => b.modeSt h⟩
    by_cases h2 : k = ("start" : Str)
    · rw [show okLine nm pr val it R line (k :: r) = okStart (noteK R line k) (k :: r) from (if_neg h1).trans (if_pos h2), show lLineOk nm pr sp S (k :: r) = lStartOk S (k :: r) from (if_neg h1).trans (if_pos h2), show stLine nm pr val it R line q (k :: r) = stStart (noteK R line k) (k :: r) from (if_neg h1).trans (if_pos h2), show lLineSt S (k :: r) = lStartSt S (k :: r) from (if_neg h1).trans (if_pos h2)]
      exact ⟨b.start _, fun h => b.startSt h⟩
    by_cases h3 : k = ("proc" : Str)
    · rw [show okLine nm pr val it R line (k :: r) = okProc nm (noteK R line k) (k :: r) from ((if_neg h1).trans (if_neg h2)).trans (if_pos h3), show lLineOk nm pr sp S (k :: r) = lProcOk nm S (k :: r) from ((if_neg h1).trans (if_neg h2)).trans (if_pos h3), show stLine nm pr val it R line q (k :: r) = stProc (noteK R line k) line (k :: r) from ((if_neg h1).trans (if_neg h2)).trans (if_pos h3), show lLineSt S (k :: r) = lProcSt S (k :: r) from ((if_neg h1).trans (if_neg h2)).trans (if_pos h3)]
      exact ⟨b.proc _, fun h => b.procSt h⟩
    have e1 : okLine nm pr val it R line (k :: r) = _ := ((if_neg h1).trans (if_neg h2)).trans (if_neg h3)
    have e2 : lLineOk nm pr sp S (k :: r) = lInsOk nm sp S (k :: r) := ((if_neg h1).trans (if_neg h2)).trans (if_neg h3)
    have e3 : stLine nm pr val it R line q (k :: r) = _ := ((if_neg h1).trans (if_neg h2)).trans (if_neg h3)
    have e4 : lLineSt S (k :: r) = lInsSt S (k :: r) := ((if_neg h1).trans (if_neg h2)).trans (if_neg h3)
    rw [e1, e2, e3, e4]
    clear e1 e2 e3 e4
    cases ho : R.owner with
    | none =>
      refine ⟨?_, fun h => by cases h⟩
      exact (if_pos (a.stackE.mpr ho) : lInsOk nm sp S (k :: r) = false).symm
    | some o => exact (b.own (putG R.owners line o)).ins hit (show R.owner ≠ none by rw [ho]; exact fun z => nomatch z) r
theorem RunW_of {it : Str → Option (Str × Str)} {sp wd : Str → List Str} {F : RdM → Prop} {B : Int → Prop} (hit : ∀ x, it x = match sp x with | [u, v] => if (nm u && (decide (v = ("?" : Str)) || nm v)) = true then some (u, v) else none | _ => none) :
    ∀ (rows : List Str) (l : Int) (R : RdM) (S : LS), Abs nm l R S → (∀ x, lRun nm pr sp wd rows S l = .inl x → B x) → (∀ S' R' l', lRun nm pr sp wd rows S l = .inr S' → Abs nm l' R' S' → F R') → RunW nm pr val it wd F B rows R l
  | [], l, R, S, a, hB, hF => hF S R l rfl a
  | row :: rows, l, R, S, a, hB, hF => by
    refine ⟨fun e => ?_, fun e => ⟨fun h => ?_, fun h q => ?_⟩⟩
    · have er : lRun nm pr sp wd (row :: rows) S l = lRun nm pr sp wd rows S (l + 1) := if_pos e
      rw [er] at hB hF
      exact RunW_of hit rows (l + 1) R S (a.later) hB hF
    · have h1 := (a.ln (pr := pr) (val := val) (q := 0) hit (wd row)).1
      rw [h] at h1
      exact hB l ((if_neg e).trans (if_neg (by rw [← h1]; decide)))
    · have h1 := a.ln (pr := pr) (val := val) (q := q) hit (wd row)
      have er : lRun nm pr sp wd (row :: rows) S l = lRun nm pr sp wd rows (lLineSt S (wd row)) (l + 1) := (if_neg e).trans (if_pos (by rw [← h1.1]; exact h))
      rw [er] at hB hF
      exact RunW_of hit rows (l + 1) _ _ (h1.2 h) hB hF
theorem foldG_some {l : List (Int × Int)} {p : Int × Int} : ∀ {d : List (Int × Int)}, p ∈ l ∨ (look d p.1).isSome = true → (look (l.foldl (fun d p => putG d p.1 p.2) d) p.1).isSome = true := by
  induction l with
  | nil =>
    intro d h
    exact h.resolve_left List.not_mem_nil
  | cons x r ih =>
    intro d h
    rw [List.foldl_cons]
    refine ih ?_
    rcases h with h | h
    · rcases List.mem_cons.mp h with rfl | h
      · refine .inr ?_
        rw [look_putG, if_pos rfl]
        rfl
      · exact .inl h
    · refine .inr ?_
      rw [look_putG]
      split
      · rfl
      · exact h
theorem zip_tail {α : Type} {y : α} : ∀ {l : List α}, y ∈ l.dropLast → ∃ b, (y, b) ∈ l.zip l.tail
  | [], h => by cases h
  | [_], h => by cases h
  | x :: z :: r, h => by
    rcases List.mem_cons.mp (show y ∈ x :: (z :: r).dropLast from h) with rfl | h
    · exact ⟨z, List.mem_cons_self⟩
    · obtain ⟨b, hb⟩ := zip_tail h
      exact ⟨b, List.mem_cons_of_mem _ hb⟩
theorem Abs.behind (a : Abs nm line R S) (ho : R.owner = none) : ∀ y ∈ R.routines, (look (behM R) y.2).isSome = true := fun y hy => by
  obtain ⟨b, hb⟩ := zip_tail (a.rb ho y hy)
  exact foldG_some (p := (y.2, b)) (.inl hb)
end
end MP
end
section
/-! several clauses 'except X as n' with one name n; a class that is called within a try -/
namespace MPX
open PySem PySem.Spec PyProof.Rows L2
def offN (i : Nat) (D : Ends) : Ends := { nx := fun σ H => D.nx (σ.set i none) H, rt := D.rt, bk := fun σ H => D.bk (σ.set i none) H, ct := fun σ H => D.ct (σ.set i none) H }
/-- what the clauses wish, one behind the other; the slot i is the name's -/
def wMA (K : PySem.W.Frag) (i : Nat) (Wo : WX) (D : Ends) : List (Value × (Addr → Value → Option Addr → TS)) → WX
  | [] => Wo
  | p :: r => fun cl d σ H => ∃ b, PySem.W.exmOne K cl p.1 = some b ∧ (b = true → ∀ a, H a = none → p.2 a cl d (offN i D) (σ.set i (some (.ref a))) H) ∧ (b = false → wMA K i Wo D r cl d σ H)
inductive HdA (X : Cx) (n : Str) : List ExceptHandler → List (Value × (Addr → Value → Option Addr → TS)) → Prop
  | nil : HdA X n [] []
  | cons {x : Str} {c : Value} {ts : Addr → Value → Option Addr → TS} {b0 : Stmt} {su : List Stmt} {np ps : Pos} {hds : List ExceptHandler} {l : List (Value × (Addr → Value → Option Addr → TS))} (hc : Names X x c)
      (hsu : ∀ (a : Addr) (oe : Obj) (cl : Value) (d : Option Addr) (pn : List (Addr × Obj)), Zc cl d oe → (∃ vs, oe.data = .fields vs) → PSs (X.suite a ((a, oe) :: pn)) (b0 :: su) (ts a cl d)) (r : HdA X n hds l) :
      HdA X n (.ExceptHandler (some (.Name x np)) (some n) (b0 :: su) ps :: hds) ((c, ts) :: l)
section
variable {X : Cx} {n : Str} {i : Nat} {body : List Stmt} {h0 : ExceptHandler} {hds : List ExceptHandler} {l : List (Value × (Addr → Value → Option Addr → TS))} {pos : Pos} {tb : WX → TS} {Wo : WX}
theorem ps_try_mas (hs : X.stack = X.env :: X.outer) (hf : X.env.frame = some X.env.locals) (hN : X.N.Nodup) (hi : X.N[i]? = some n) (hln : X.env.kindOf n = some .local) (tk : Takes X Wo)
    (hb : ∀ (W : WX) (pn : List (Addr × Obj)) (xe : Value → Shared → Prop), Takes (X.tr pn xe) W → PassesOwn (model X.prog X.w) X.A X.env xe → PSs (X.tr pn xe) body (tb W))
    (hh : HdA X n (h0 :: hds) l) : PS X (.Try body (h0 :: hds) [] [] pos) (fun D σ H => tb (wMA X.K i Wo D l) D σ H) := by
  constructor
  intro pins s σ H D I h
  have ok := I.ok
  have hfr : X.A.frames = some (X.env :: X.outer) := by
    rw [ok.frames, hs]
  have hlo : Loc X.env.scope n := .inl hln
  refine wpAny_Try_except ?_
  refine wpAny_mono ((hb (wMA X.K i Wo D l) (X.pn ++ pins) (fun e z1 => wpAny (model X.prog X.w) X.A (noteFrame e X.env) (fun _ z2 => wpAny (model X.prog X.w) X.A (setFlight e none) (fun _ z3 => wpAny (model X.prog X.w) X.A (handleBy e X.env (h0 :: hds)) (SP X pins D) X.xe z3) X.xe z2) X.xe z1)
    (fun u s' xx => ?_) PassesOwn.looking).run [] s σ H D (I.toTry _) h) (fun f z1 hsp => ?_) (fun e z1 he => he)
  · obtain ⟨a, B, sI, pins', σ', H', cl, d, rfl, J', nb, up, sky, na, os, ag, w⟩ := xx
    have J : Inv X pins σ' H' sI := J'.ofTry ok
    have skz : Sky B (X.env :: X.outer) a (Zc cl d) X.env.locals s'.heap := by
      rw [← hs]
      exact sky
    show wpAny (model X.prog X.w) X.A (noteFrame (.ref a) X.env) _ _ _
    refine Sky.land Zc.steady hfr hf skz fun h3 fl up3 => ?_
    have J3 : Inv X pins σ' H' { s' with heap := h3 } := J.landed nb fl.1 (up.trans up3) os ag
    obtain ⟨o3, v3, he3, hz3, hd3⟩ := fl.there
    have noF : ∀ {h : Heap} {o : Obj} {vs : Array Value}, h.FunFrames B (X.env :: X.outer) → h.get? a = some o → o.data = .fields vs → a ∉ frs (X.env :: X.outer) := fun {h o vs} ff e dd hm => by
      obtain ⟨_, o', e', hn⟩ := ff.mem hm
      rw [e] at e'
      cases e'
      exact hn _ dd
    have nfr := noF fl.2.2.1 he3 hd3
    have nL : a ≠ X.env.locals := fun z => nfr (List.mem_filterMap.mpr ⟨X.env, List.mem_cons_self, by rw [hf, z]⟩)
    have nF : a ∉ X.fs := fun hm => by
      obtain ⟨e, he, q⟩ := List.mem_filterMap.mp hm
      exact nfr (List.mem_filterMap.mpr ⟨e, List.mem_cons_of_mem _ he, q⟩)
    have S3 := J3.suite he3 hd3 na nL nF
    have LT : PySem.W.Looks (model X.prog X.w) h3 (typeOf (.ref a)) cl := fun A Q E s k q => wpAny_typeOf_ref (k _ _ he3) (by rw [hz3.1]; exact q)
    have go : ∀ {hd : List ExceptHandler} {m : List (Value × (Addr → Value → Option Addr → TS))}, HdA X n hd m → wMA X.K i Wo D m cl d σ' H' → wpAny (model X.prog X.w) X.A (handleBy (.ref a) X.env hd) (SP X pins D) X.xe { s' with heap := h3 } := by
      intro hd m hk
      induction hk with
      | nil =>
        intro w
        refine wpAny_handleBy_nil ?_
        obtain ⟨k1, k2, k3, oe, vs, T, oT, ts', he, hz, hd, h1, hr⟩ := id fl
        unfold PySem.passOn
        refine wpAny_bind (wpAny_field he hd h1 ?_)
        rw [if_neg (show ¬ ((Value.ref T == Value.none) = true) from by simp)]
        have fin : wpAny (model X.prog X.w) X.A (setFlight (.ref a) X.env.frame) (fun _ s4 => wpAny (model X.prog X.w) X.A (throw (.ref a) : Sem Flow) (SP X pins D) X.xe s4) X.xe { s' with heap := h3 } := by
          rw [hf]
          refine HandSPX.setFlight_upZ fl fun h4 hh4 up4 => wpAny_throw (tk _ _ ?_)
          exact ⟨a, B, sI, pins, σ', H', cl, d, rfl, J, nb, (up.trans up3).trans up4, .inr (.inr (by rw [hs]; exact hh4)), na, os, ag, w⟩
        first
          | exact wpAny_bind (wpAny_pure (wpAny_bind fin))
          | exact wpAny_bind fin
      | @cons x c ts b0 su np ps hd2 m2 hc hsu r ih =>
        intro w
        obtain ⟨b, hb1, hyes, hno⟩ := w
        refine wpAny_handleBy_cons (codeAny_handlers_test ?_) (by intro q; cases q)
        have LM := PySem.W.exm_one (M := model X.prog X.w) (J3.kIn) LT hb1
        have test : ∀ {Q : Value → Shared → Prop} {E : Value → Shared → Prop}, Q c { s' with heap := h3 } → wpAny (model X.prog X.w) (X.A.mark (some (.ref a))) (eval (.Name x np) X.env) Q E { s' with heap := h3 } := fun {Q E} q => by
          obtain ⟨hg, hdb, hm | ⟨hm, hv, hnn⟩⟩ := hc
          · exact ld_glob (X := X.suite a ((a, o3) :: (X.pn ++ pins))) S3 hg hm q hdb
          · exact ld_blt (X := X.suite a ((a, o3) :: (X.pn ++ pins))) S3 hg hm hv q hnn hdb
        refine test (LM.here ?_)
        cases b with
        | true =>
          refine codeAny_handlers_suite_as ?_
          refine HandSPX.lands_againZ fl fun h4 fl4 up4 => ?_
          have J4 : Inv X pins σ' H' { s' with heap := h4 } := J.landed nb fl4.1 ((up.trans up3).trans up4) os ag
          obtain ⟨o4, v4, he4, hz4, hd4⟩ := fl4.there
          have S4 := J4.suite he4 hd4 na nL nF
          refine store_ok (X := X.suite a ((a, o4) :: (X.pn ++ pins))) (v := .ref a) S4 hN hi hlo rfl (fun z5 S5 => ?_) (.inr hln)
          refine wpAny_mono ((hsu a o4 cl d (X.pn ++ pins) hz4 ⟨_, hd4⟩).run [] z5 _ H' _ S5 (hyes rfl a na)) (fun f z6 hsp => ?_) (fun _ _ z => False.elim z)
          have fin : ∀ {σ6 : L2.St} {H6 : Hp} {Q : Shared → Prop}, Inv (X.suite a ((a, o4) :: (X.pn ++ pins))) [] σ6 H6 z6 → (∀ z7, Inv X pins (σ6.set i none) H6 z7 → Q z7) →
              wpAny (model X.prog X.w) X.A (do bindName X.env n .none; unbindBehindTheSuite X.env n ps) (fun _ z7 => Q z7) X.xe z6 := fun {σ6 H6 Q} S6 hq => gone_ok (S6.unsuite ok) hN hi hln hq
          cases f with
          | next =>
            obtain ⟨σ6, H6, S6, q6⟩ := hsp
            exact fin S6 fun z7 J7 => ⟨_, _, J7, q6⟩
          | brk =>
            obtain ⟨σ6, H6, S6, q6⟩ := hsp
            exact fin S6 fun z7 J7 => ⟨_, _, J7, q6⟩
          | cont =>
            obtain ⟨σ6, H6, S6, q6⟩ := hsp
            exact fin S6 fun z7 J7 => ⟨_, _, J7, q6⟩
          | ret u =>
            obtain ⟨v6, σ6, H6, S6, r6, q6⟩ := hsp
            exact fin S6 fun z7 J7 => ⟨_, _, _, J7, r6, q6⟩
        | false =>
          show wpAny _ X.A (handleBy (.ref a) X.env hd2) _ _ _
          exact ih (hno rfl)
    exact go hh w
  · cases f with
    | next =>
      obtain ⟨σ', H', J', q⟩ := hsp
      exact wpAny_execs_nil ⟨σ', H', J'.ofTry ok, q⟩
    | brk =>
      obtain ⟨σ', H', J', q⟩ := hsp
      exact ⟨σ', H', J'.ofTry ok, q⟩
    | cont =>
      obtain ⟨σ', H', J', q⟩ := hsp
      exact ⟨σ', H', J'.ofTry ok, q⟩
    | ret u =>
      obtain ⟨v, σ', H', J', r, q⟩ := hsp
      exact ⟨v, σ', H', J'.ofTry ok, r, q⟩
end
theorem ps_try_as2 {X : Cx} {n : Str} {i : Nat} {body : List Stmt} {x1 x2 : Str} {c1 c2 : Value} {t1 t2 : Addr → Value → Option Addr → TS} {b1 b2 : Stmt} {su1 su2 : List Stmt} {np1 np2 ps1 ps2 pos : Pos} {tb : WX → TS} {Wo : WX}
    (hs : X.stack = X.env :: X.outer) (hf : X.env.frame = some X.env.locals) (hN : X.N.Nodup) (hi : X.N[i]? = some n) (hln : X.env.kindOf n = some .local) (hc1 : Names X x1 c1) (hc2 : Names X x2 c2) (tk : Takes X Wo)
    (hb : ∀ (W : WX) (pn : List (Addr × Obj)) (xe : Value → Shared → Prop), Takes (X.tr pn xe) W → PassesOwn (model X.prog X.w) X.A X.env xe → PSs (X.tr pn xe) body (tb W))
    (hu1 : ∀ (a : Addr) (oe : Obj) (cl : Value) (d : Option Addr) (pn : List (Addr × Obj)), Zc cl d oe → (∃ vs, oe.data = .fields vs) → PSs (X.suite a ((a, oe) :: pn)) (b1 :: su1) (t1 a cl d))
    (hu2 : ∀ (a : Addr) (oe : Obj) (cl : Value) (d : Option Addr) (pn : List (Addr × Obj)), Zc cl d oe → (∃ vs, oe.data = .fields vs) → PSs (X.suite a ((a, oe) :: pn)) (b2 :: su2) (t2 a cl d)) :
    PS X (.Try body [.ExceptHandler (some (.Name x1 np1)) (some n) (b1 :: su1) ps1, .ExceptHandler (some (.Name x2 np2)) (some n) (b2 :: su2) ps2] [] [] pos) (fun D σ H => tb (wMA X.K i Wo D [(c1, t1), (c2, t2)]) D σ H) :=
  ps_try_mas hs hf hN hi hln tk hb (.cons hc1 hu1 (.cons hc2 hu2 .nil))
section
variable {X : Cx} {CX : CXT} {k : Nat} {f C : Addr} {fd : FuncData} {ps : List Str} {sp : Sp} {E : L2.St → XK} {x : Str} {p pos : Pos} {e : Expr} {es : List Expr} {t : TA}
theorem run_mkS {pins : List (Addr × Obj)} {σ : L2.St} {H : Hp} {s : Shared} {Q : VK} {us : List Value} {vs : List V} (M : Mk X.K C f) (F : FnOk X.prog X.w X.K X.mg X.base CX k f fd ps sp) (hr : Room (k + 1) X.A) (hb : Binds X.K fd ps [])
    (hx : PassesAt CX X σ (E σ)) (I : Inv X pins σ H s) (r : Vals vs us) (h : ∀ x dx, H x = none → H dx = none → dx ≠ x → sp (.ref x :: vs) (upd (upd H dx (.own x)) x (.ins C dx [])) (fun v H2 => v = .non ∧ Q (.ref x) H2) (E σ)) :
    wpAny (model X.prog X.w) X.A (call (.ref C) us) (EP X pins σ Q) X.xe s := by
  have q0 := h (s.heap.objs.size + 1) s.heap.objs.size (I.hok.fresh (Nat.le_succ _)) (I.hok.fresh (Nat.le_refl _)) (Nat.ne_of_lt (Nat.lt_succ_self _))
  have I2 := Inv.made (C := C) I
  have r2 : Vals (V.ref (s.heap.objs.size + 1) :: vs) (Value.ref (s.heap.objs.size + 1) :: us) := .cons rfl r
  have hl : (Value.ref (s.heap.objs.size + 1) :: us).length = ps.length := by
    have e := r2.length
    rw [F.len _ _ _ _ q0] at e
    exact e.symm
  have b := hb _ (Value.ref (s.heap.objs.size + 1) :: us) I2.kIn (by rw [List.append_nil]; exact hl)
  rw [List.append_nil] at b
  refine wpAny_call (make_map (f := f) I.kIn M.makes M.init (beq_iff_eq.mp M.fn) (codeAny_mono (F.run _ X.stack _ _ ⟨Value.ref (s.heap.objs.size + 1) :: us, []⟩ (Value.ref (s.heap.objs.size + 1) :: us) _ _ (E σ) (hr.make C us []) (I2.env0.make C us []) b r2 q0) fun r s' q' => ?_))
  cases r with
  | error e => exact hx pins _ _ e s' I2 q'
  | ok fl =>
    cases fl with
    | ret u =>
      obtain ⟨v, H', I3, rv, ev, q3⟩ := I2.after q'
      subst ev
      exact ⟨rv, ⟨V.ref (s.heap.objs.size + 1), H', I3, rfl, q3⟩⟩
    | next => exact False.elim q'
    | brk => exact False.elim q'
    | cont => exact False.elim q'
end
end MPX
namespace MP
open PySem PySem.Spec PyProof.Rows L2 MPX
def tMakS (C : Addr) (sp : Sp) (E : L2.St → XK) (t : TA) : TE := fun σ H Q => t σ H fun vs H1 => ∀ x dx, H1 x = none → H1 dx = none → dx ≠ x → sp (.ref x :: vs) (upd (upd H1 dx (.own x)) x (.ins C dx [])) (fun v H2 => v = .non ∧ Q (.ref x) H2) (E σ)
theorem x_makS {C : Addr} {sp : Sp} {E : L2.St → XK} {t : TA} {σ : L2.St} {H : Hp} {Q : VK} (h : t σ H fun vs H1 => ∀ x dx, H1 x = none → H1 dx = none → dx ≠ x → sp (.ref x :: vs) (upd (upd H1 dx (.own x)) x (.ins C dx [])) (fun v H2 => v = .non ∧ Q (.ref x) H2) (E σ)) : tMakS C sp E t σ H Q := h
theorem pe_cmS {X : Cx} {k j : Nat} {x : Str} {C : Addr} {sp : Sp} {E : L2.St → XK} {p pos : Pos} {e : Expr} {es : List Expr} {t : TA} (c : CalM X.prog X.w X.K X.mg X.base k x C sp) (hr : Room j X.A) (hk : k + 1 ≤ j) (hg : Gl X x) (hx : ∀ σ, PassesAt (L2.CX X.prog X.w) X σ (E σ)) (ha : PA X (e :: es) t)
    (hdb : (x == ("__debug__" : Str)) = false := by decide) (he : starEach (e :: es) X.env = (false, eval e X.env) :: starEach es X.env := by rfl) (hpl : (backTo pos (starEach es X.env)).any (·.1) = false := by rfl) :
    PE X (.Call (.Name x p) (e :: es) [] pos) (tMakS C sp E t) := by
  obtain ⟨f, fd, ps, M, F, hm, b⟩ := c.ex
  refine ⟨fun pins s σ H Q I h => ?_⟩
  refine wpAny_Call_Name_kw (ld_glob I hg hm ?_ hdb)
  refine PySem.W.callWith_K (h₀ := X.base) I.ok.mod.kin M.kp (thn (ha.run pos pins s σ H _ I h) fun us s1 ⟨vs, H1, I1, r, q⟩ => ⟨I1.kIn, ?_⟩) he hpl
  exact run_mkS M F (hr.mono hk) b (hx σ) I1 r q
theorem x_tma {K : PySem.W.Frag} {i : Nat} {Wo : WX} {D : Ends} {l : List (Value × (Addr → Value → Option Addr → TS))} {tb : WX → TS} {σ : L2.St} {H : Hp} (h : tb (wMA K i Wo D l) D σ H) : (fun D σ H => tb (wMA K i Wo D l) D σ H) D σ H := h
end MP
end
section
/-! len(set(texts)): how many different ones -/
namespace MPX
open PySem PySem.Spec PyProof.Rows L2
def stepD (l : List Str) (v : Str) : List Str := if l.any (· == v) then l else l ++ [v]
def metD (xs : List Str) : List Str := xs.foldl stepD []
theorem metD_snoc (l : List Str) (v : Str) : metD (l ++ [v]) = stepD (metD l) v := by
  unfold metD
  rw [List.foldl_append]
  rfl
theorem stepD_any (l : List Str) (v k : Str) : (stepD l v).any (· == k) = (l.any (· == k) || decide (k = v)) := by
  unfold stepD
  by_cases h : l.any (· == v) = true
  · rw [if_pos h]
    by_cases e : k = v
    · subst e
      rw [h]
      rfl
    · rw [decide_eq_false e, Bool.or_false]
  · rw [if_neg h, List.any_append]
    by_cases e : k = v
    · subst e
      simp
    · have hb : (v == k) = false := beq_eq_false_iff_ne.mpr fun z => e z.symm
      rw [decide_eq_false e]
      simp [hb]
theorem stepD_len (l : List Str) (v : Str) : (stepD l v).length = if l.any (· == v) then l.length else l.length + 1 := by
  unfold stepD
  split
  · rfl
  · rw [List.length_append]
    rfl
theorem metD_le : ∀ (xs l : List Str), (xs.foldl stepD l).length ≤ l.length + xs.length
  | [], l => Nat.le_refl _
  | x :: r, l => by
    have h := metD_le r (stepD l x)
    have e := stepD_len l x
    rw [List.foldl_cons, List.length_cons]
    split at e <;> omega
theorem metD_nodup : ∀ (xs l : List Str), l.Nodup → ((xs.foldl stepD l).length = l.length + xs.length ↔ (l ++ xs).Nodup)
  | [], l, h => by simp [h]
  | x :: r, l, h => by
    rw [List.foldl_cons]
    by_cases e : l.any (· == x) = true
    · have es : stepD l x = l := if_pos e
      have hm : x ∈ l := by
        obtain ⟨y, hy, z⟩ := List.any_eq_true.mp e
        rw [← eq_of_beq z]
        exact hy
      rw [es]
      have hle := metD_le r l
      rw [List.length_cons]
      refine ⟨fun q => by omega, fun q => ?_⟩
      exact absurd rfl ((List.nodup_append.mp q).2.2 x hm x List.mem_cons_self)
    · have es : stepD l x = l ++ [x] := if_neg e
      have hm : x ∉ l := fun z => e (List.any_eq_true.mpr ⟨x, z, by simp⟩)
      have hn : (l ++ [x]).Nodup := List.nodup_append.mpr ⟨h, by simp, fun a ha b hb z => hm (by rw [← List.mem_singleton.mp hb, ← z]; exact ha)⟩
      rw [es]
      have ih := metD_nodup r (l ++ [x]) hn
      rw [List.length_append, List.append_assoc] at ih
      rw [List.length_cons]
      show _ ↔ (l ++ ([x] ++ r)).Nodup
      rw [← ih]
      show _ ↔ _ = l.length + 1 + r.length
      omega
section
variable {prog : Program} {w : World} {A : Around} {R : Result → Shared → Prop} {I : Addr} {fp wr : List Addr} {G : Array GenState → Array GenState → Prop} {n : Nat} {P : Nat → Value → Prop} {St : Nat → Shared → Prop}
theorem loopD (W : WalksS prog w A.in1 I fp wr G n P St) (S : Addr) (hSf : S ∉ fp) (xs : List Str) (hsz : xs.length = n) (hn : n + 1 < scanBound) (hval : ∀ i v, P i v → ∃ t, v = .str (xs.getD i Str.empty) t) :
    ∀ (k i : Nat) (s : Shared), n - i = k → i ≤ n → St i s → s.heap.SetOf (PySem.strKind prog w) S (fun k' => (metD (xs.take i)).any (· == k')) (metD (xs.take i)).length →
      (∀ s', Moved (S :: wr) G s s' → s'.heap.SetOf (PySem.strKind prog w) S (fun k' => (metD (xs.take n)).any (· == k')) (metD (xs.take n)).length → R (.ok (.ret .none)) s') →
      codeAny (model prog w) A (.builtin "set.update.loop" ⟨[.ref S, .ref I], []⟩) R s := by
  have hSw : S ∉ wr := fun h => hSf (W.sub _ h)
  have hsub : ∀ b ∈ wr, b ∈ S :: wr := fun b hb => List.mem_cons_of_mem _ hb
  intro k
  induction k with
  | zero =>
    intro i s hk hi hst hS hR
    obtain rfl : i = n := by omega
    refine codeAny_builtin PyProof.Rows.F.entry_set_update_loop ?_
    rw [Around.under_plainId PyProof.Rows.F.plain_set_update_loop _]
    show wpAny _ A.in1 (pyNext (.ref I) >>= _) _ _ s
    refine wpAny_bind (W.done s _ _ hst fun s' hm => ?_)
    show wpAny _ A.in1 (ret Value.none) _ _ s'
    refine wpAny_pure (hR s' (hm.mono hsub) ?_)
    obtain ⟨o, es, ep, t, ho, rest⟩ := hS
    exact ⟨o, es, ep, t, hm.heap S _ hSw ho, rest⟩
  | succ k ih =>
    intro i s hk hi hst hS hR
    have hlt : i < n := by omega
    have hx : i < xs.length := by omega
    refine codeAny_builtin PyProof.Rows.F.entry_set_update_loop ?_
    rw [Around.under_plainId PyProof.Rows.F.plain_set_update_loop _]
    show wpAny _ A.in1 (pyNext (.ref I) >>= _) _ _ s
    refine wpAny_bind (W.item i s _ _ hlt hst fun v s' hP hst' hm => ?_)
    obtain ⟨t, rfl⟩ := hval i v hP
    have hS' : s'.heap.SetOf (PySem.strKind prog w) S (fun k' => (metD (xs.take i)).any (· == k')) (metD (xs.take i)).length := by
      obtain ⟨o, es, ep, tb, ho, rest⟩ := hS
      exact ⟨o, es, ep, tb, hm.heap S _ hSw ho, rest⟩
    have ev : xs.take (i + 1) = xs.take i ++ [xs.getD i Str.empty] := by
      rw [List.take_add_one, List.getElem?_eq_getElem hx, List.getD_eq_getElem?_getD, List.getElem?_eq_getElem hx]
      rfl
    have hl : (metD (xs.take i)).length ≤ i := by
      have := metD_le (xs.take i) []
      rw [List.length_take] at this
      simp only [List.length_nil] at this
      unfold metD
      omega
    show wpAny _ A.in1 (holding [Value.str (xs.getD i Str.empty) t] (setAdd S (.str (xs.getD i Str.empty) t)) >>= _) _ _ s'
    refine wpAny_bind (wpAny_holding ?_)
    unfold setAdd
    refine wpAny_holding ?_
    refine wpAny_bind ((PySem.strKind prog w).pyHash (k := xs.getD i Str.empty) (strKind_is _ _ _ _) ?_)
    refine wpAny_setAddHashed_of (knd := PySem.strKind prog w) (s := { s' with toks := s'.toks + 1 }) (strKind_is _ _ _ _) rfl hS' (by omega) fun h' hsb hS2 => ?_
    have hSi : h'.SetOf (PySem.strKind prog w) S (fun k' => (metD (xs.take (i + 1))).any (· == k')) (metD (xs.take (i + 1))).length :=
      SetOf_congr hS2 (fun k' => by rw [ev, metD_snoc, stepD_any]) (by rw [ev, metD_snoc, stepD_len])
    refine wpAny_pure ⟨plainId_quiet PyProof.Rows.F.plain_set_update_loop _, ih (i + 1) _ (by omega) hlt (W.frame _ s' _ _ hst' (Nat.le_succ _) fun b hb o e => ?_) hSi fun s'' hm'' hS'' => ?_⟩
    · rw [hsb.2 b fun h : b = S => hSf (by rw [← h]; exact hb)]
      exact e
    · refine hR s'' (Moved.trans W.gtrans ((hm.mono hsub).then_heap (Nat.le_succ _) fun b o hb e => ?_) hm'') hS''
      rw [hsb.2 b fun h : b = S => hb (by rw [h]; exact List.mem_cons_self)]
      exact e
end
section
variable {prog : Program} {w : World} {A : Around} {E : Value → Shared → Prop} {s : Shared}
set_option maxHeartbeats 8000000 in
theorem set_of_texts {l : Addr} {items : Array Value} {xs : List Str} {Q : Value → Shared → Prop} (hh : A.handled = none) (hl : s.heap.IsList l items) (hi : PyProof.Rows.StrsAre items.toList xs) (hn : xs.length + 1 < scanBound)
    (h : ∀ (h' : Heap) (tk : Nat), h'.SetOf (PySem.strKind prog w) s.heap.objs.size (fun k' => (metD xs).any (· == k')) (metD xs).length → (∀ b o, b < s.heap.objs.size → s.heap.get? b = some o → h'.get? b = some o) → Q (.ref s.heap.objs.size) { s with heap := h', toks := tk }) :
    wpAny (model prog w) A (call (.type "set") [.ref l]) Q E s := by
  obtain ⟨c, tl, hmro⟩ := PySem.F.called_set.mro
  have hmade := PySem.F.called_set.made
  have hsub := PySem.F.called_set.sub
  have hsz : xs.length = items.size := by rw [← StrsAre.len_eq hi, Array.length_toList]
  refine wpAny_call (codeAny_of_tree ?_)
  show wpAny _ _ (callAny (.type "set") _) _ _ _
  refine wpAny_pure ⟨Code.quiet_builtin _ (by decide +kernel), codeAny_builtin PySem.F.entry_type_call ?_⟩
  rw [Around.under_plain (weight_type_call_type "set" [.ref l] []) rfl]
  have h1 := PySem.F.called_set.notType
  have h2 := PySem.F.called_set.canCreate
  have hct := PySem.F.typeCall_set_1 (.ref l)
  repeat (any_goals (first | assumption | wp_step))
  refine codeAny_mono (code_set_new_1 (.ref l) (E := E) (Q₁ := fun obj s₁ => ∃ led : Bool, obj = .ref s.heap.objs.size ∧ s₁ = { s with heap := s.heap.push { cls := .type "set", dict := none, data := .set #[] 0 (.fresh 0 0 led) } }) fun led => ⟨led, rfl, rfl⟩) fun r s₁ hr => ?_
  cases r with
  | error e => exact hr
  | ok fl =>
    cases fl with
    | ret obj =>
      obtain ⟨led, rfl, rfl⟩ := hr
      have hS : (s.heap.push { cls := .type "set", dict := none, data := .set #[] 0 (.fresh 0 0 led) }).get? s.heap.objs.size = some { cls := .type "set", dict := none, data := .set #[] 0 (.fresh 0 0 led) } := Heap.get?_push_size _ rfl
      have hT : Shared.TypeIs { s with heap := s.heap.push { cls := .type "set", dict := none, data := .set #[] 0 (.fresh 0 0 led) } } (.ref s.heap.objs.size) "set" := ⟨_, hS, rfl⟩
      have hli := PySem.F.called_set.init.lookup
      have hbi := PySem.F.called_set.init.bind (.ref s.heap.objs.size)
      repeat (any_goals (first | assumption | wp_step))
      refine codeAny_mono (codeAny_call_builtin (R := wants (fun r s₂ => r = .none ∧ ∃ h' tk, s₂ = { s with heap := h', toks := tk } ∧ h'.SetOf (PySem.strKind prog w) s.heap.objs.size (fun k' => (metD xs).any (· == k')) (metD xs).length ∧
          (∀ b o, b < s.heap.objs.size → s.heap.get? b = some o → h'.get? b = some o)) E) PySem.F.called_set.init.plain PySem.F.entry_set_init (check_set_init_1 hT ?_)) fun r₂ s₂ hr₂ => ?_
      · obtain ⟨ol, hol, hcl, nl, hdl⟩ := hl
        obtain ⟨ocls, odict, odata, oslots⟩ := ol
        simp only at hcl hdl
        subst hcl
        subst hdl
        have hol' : (s.heap.push { cls := .type "set", dict := none, data := .set #[] 0 (.fresh 0 0 led) }).get? l = some { cls := .type "list", dict := odict, data := .seq items nl, slots := oslots } := Heap.get?_push_of_some _ hol
        have hsls := PySem.F.sub_list_set
        have hslf := PySem.F.sub_list_frozenset
        have hne : (Value.type "list" == Value.type "dict") = false := by decide
        have hl1 : (s.heap.push { cls := .type "set", dict := none, data := .set #[] 0 (.fresh 0 0 led) }).IsList l items := ⟨_, hol', rfl, nl, rfl⟩
        unfold Builtin.«set.__init__» noKeywords Builtin.Frozenset.updateFrom
        generalize hPI : pyIter = PI
        wp_walk
        subst hPI
        refine wpAny_pyIter_list hl1 ?_
        refine wpAny_bind (wpAny_runValue ?_)
        have hlS : l < s.heap.objs.size := Heap.lt_size hol
        have hh3 : A.in1.in1.in1.handled = none := by simp [hh]
        have hneI : l ≠ (s.heap.push { cls := .type "set", dict := none, data := .set #[] 0 (.fresh 0 0 led) }).objs.size := by
          rw [Heap.size_push]
          exact Nat.ne_of_lt (Nat.lt_succ_of_lt hlS)
        have hSf : s.heap.objs.size ∉ [(s.heap.push { cls := .type "set", dict := none, data := .set #[] 0 (.fresh 0 0 led) }).objs.size, l] := by
          rw [Heap.size_push]
          simp only [List.mem_cons, List.mem_singleton, List.not_mem_nil, or_false, not_or]
          exact ⟨Nat.ne_of_lt (Nat.lt_succ_self _), Nat.ne_of_gt hlS⟩
        have hval : ∀ (i : Nat) (v : Value), items[i]? = some v → ∃ t, v = .str (xs.getD i Str.empty) t := fun i v hv => SS.strs_at hi i v (by rw [Array.getElem?_toList]; exact hv)
        refine loopD ((Walks.list hh3 _ l hneI items).toS) s.heap.objs.size hSf xs hsz (by rw [← hsz]; exact hn) hval (items.size - 0) 0 _ (by omega) (Nat.zero_le _) ⟨⟨_, Heap.get?_push_size _ rfl, rfl, rfl⟩, (hl1.push _)⟩ ?hS0 ?hR
        case hS0 =>
          have hget : ((s.heap.push { cls := .type "set", dict := none, data := .set #[] 0 (.fresh 0 0 led) }).push { cls := .type "list_iterator", data := .fields #[.ref l, .int 0 0] }).get? s.heap.objs.size = some { cls := .type "set", dict := none, data := .set #[] 0 (.fresh 0 0 led) } := Heap.get?_push_of_some _ hS
          exact PyProof.Rows.SetOf_congr ((PyProof.Rows.setObjOf_fresh (knd := PySem.strKind prog w) led).setOf hget (by unfold scanBound; omega)) (fun _ => rfl) rfl
        case hR =>
          intro s' hm hS'
          rw [← hsz, List.take_length] at hS'
          obtain ⟨h', g', d', tk', os'⟩ := s'
          have eg : g' = s.gens := hm.gens
          have ed : d' = s.drawn := hm.drawn
          have eo : os' = s.os := hm.os
          subst eg
          subst ed
          subst eo
          show wpAny _ _ _ _ _ _
          refine wpAny_pure ?_
          show wpAny _ _ (ret Value.none) _ _ _
          refine wpAny_pure ⟨rfl, h', tk', rfl, hS', fun b o hb e => ?_⟩
          have hb1 : b ≠ s.heap.objs.size := Nat.ne_of_lt hb
          have hb2 : b ≠ (s.heap.push { cls := .type "set", dict := none, data := .set #[] 0 (.fresh 0 0 led) }).objs.size := by
            rw [Heap.size_push]
            exact Nat.ne_of_lt (Nat.lt_succ_of_lt hb)
          exact hm.heap b o (by simp only [List.mem_cons, List.mem_singleton, List.not_mem_nil, or_false, not_or]; exact ⟨hb1, hb2⟩) (Heap.get?_push_of_some _ (Heap.get?_push_of_some _ e))
      · cases r₂ with
        | error e => exact hr₂
        | ok fl₂ =>
          cases fl₂ with
          | ret r =>
            obtain ⟨rfl, h', tk, rfl, hS', hk'⟩ := hr₂
            repeat (any_goals (first | assumption | wp_step))
            exact h _ _ hS' hk'
          | _ => exact hr₂.elim
    | _ => exact hr.elim
end
end MPX
namespace MP
open PySem PySem.Spec PyProof.Rows L2 MPX
/-- len(set(xs)), xs a list of texts -/
def rLenSet (K : PySem.W.Frag) (x : V) (H : Hp) (Q : VK) : Prop := ∃ (l : Addr) (xs : List Str), x = .ref l ∧ SqL K H l (xs.map V.str) ∧ xs.length ≤ 1000 ∧ Q (.int ((metD xs).length : Nat)) H
def tLenSetD (K : PySem.W.Frag) (ta : TE) : TE := fun σ H Q => ta σ H fun x H1 => rLenSet K x H1 Q
theorem x_lenSet {K : PySem.W.Frag} {ta : TE} {σ : L2.St} {H : Hp} {Q : VK} (h : ta σ H fun x H1 => rLenSet K x H1 Q) : tLenSetD K ta σ H Q := h
theorem pe_lenSetD {X : Cx} {a : Expr} {ta : TE} {p p2 q pos : Pos} (hc : X.calm = true) (hg : Gl X "len") (hm : X.mg "len" = none) (hg2 : Gl X "set") (hm2 : X.mg "set" = none) (ha : PE X a ta)
    (na : starEach [a] X.env = (false, eval a X.env) :: starEach [] X.env := by rfl) : PE X (.Call (.Name "len" p) [.Call (.Name "set" p2) [a] [] q] [] pos) (tLenSetD X.K ta) := by
  refine ⟨fun pins s σ H Q I h => ?_⟩
  refine Call_ (ld_blt I hg hm boot_len ?_)
  refine PyProof.Rows.callWith_builtin1 (PyProof.Rows.args_cons ?_ rfl) rfl rfl
  refine Call_ (ld_blt I hg2 hm2 boot_set ?_)
  refine PyProof.Rows.callWith_type1 (PyProof.Rows.args_cons (thn (ha.run pins s σ H _ I h) fun v s1 ⟨x, H1, I1, r1, q1⟩ => PyProof.Rows.args_nil ?_) na) na rfl
  obtain ⟨l, xs, rfl, hq, h1, q1⟩ := q1
  cases r1
  obtain ⟨its, r, pl, hz⟩ := I1.list hq
  refine set_of_texts (I1.ok.hd hc) pl.isList (by simpa using strsAre_of r) (by unfold scanBound; omega) fun h' tk hS hk => ?_
  refine PyProof.Rows.args_nil ?_
  have hle := metD_le xs []
  obtain ⟨o, es, ep, t, ho, hex, hd, _, _, _, hf, hn⟩ := hS
  have I2 : Inv X pins σ H1 { s1 with heap := h', toks := tk } := I1.kept fun b o e => hk b o (Heap.lt_size e) e
  exact call_len_set ho hex hd hf (by rw [hn]; unfold metD; simp only [List.length_nil] at hle; omega) ⟨.int ((metD xs).length : Nat), H1, I2.tok _, ⟨_, by rw [hn]⟩, q1⟩
end MP
end
section
namespace MP
open PySem PySem.Spec PyProof.Rows L2
/-! ### a list == an empty one -/
def rEqE (K : PySem.W.Frag) : R2 := fun x y H Q => ∃ a b xs, x = .ref a ∧ y = .ref b ∧ SqL K H a xs ∧ H b = some (.lst []) ∧ Q (.bl xs.isEmpty) H
theorem op_eqE {X : Cx} (hu : X.A.units + 64 < cLine) : OpR X (compareOp .Eq) (rEqE X.K) := by
  intro pins s σ H x y v u Q I rx ry h
  obtain ⟨a, b, xs, rfl, rfl, ha, hb, q⟩ := h
  obtain ⟨us, r1, p1, _⟩ := I.list ha
  obtain ⟨ws, r2, p2, _⟩ := I.list (SqL.of (K := X.K) hb)
  cases (show v = Value.ref a from rx)
  cases (show u = Value.ref b from ry)
  cases r2
  have hl := r1.length
  by_cases e : xs = []
  · subst e
    cases r1
    have z := SeqAt.RcAt.lists (A := X.A) (e := fun _ => true) p1.isList p2.isList rfl (by omega) (fun j h1 _ => absurd h1 (Nat.not_lt_zero j))
    rw [all_t] at z
    exact z _ _ _ _ ⟨.bl true, H, I, rfl, q⟩
  · have hne : us.length ≠ 0 := fun z => e (List.eq_nil_of_length_eq_zero (by omega))
    have z := SeqAt.RcAt.lists_lengths (A := X.A) p1.isList p2.isList (by simpa using hne) (by omega)
    have e2 : xs.isEmpty = false := by
      cases xs with
      | nil => exact absurd rfl e
      | cons _ _ => rfl
    rw [e2] at q
    exact z _ _ _ _ ⟨.bl false, H, I, rfl, q⟩
theorem x_eqE {K : PySem.W.Frag} {a b : Addr} {xs : List V} {H : Hp} {Q : VK} (h1 : SqL K H a xs) (h2 : H b = some (.lst [])) (h : Q (.bl xs.isEmpty) H) : rEqE K (.ref a) (.ref b) H Q := ⟨a, b, xs, rfl, rfl, h1, h2, h⟩
end MP
namespace MP
open PySem L2
/-! ### lists of texts -/
def fV (f : Str → Bool) : V → Bool
  | .str z => f z
  | _ => false
theorem fV_filter (f : Str → Bool) : ∀ l : List Str, (l.map V.str).filter (fV f) = (l.filter f).map V.str
  | [] => rfl
  | x :: r => by
    rw [List.map_cons, List.filter_cons, List.filter_cons]
    show (if f x = true then _ else _) = _
    cases f x with
    | true => rw [if_pos rfl, if_pos rfl, fV_filter f r]; rfl
    | false => rw [if_neg (by decide), if_neg (by decide), fV_filter f r]
theorem isE_filter (f : Str → Bool) (l : List Str) : (l.filter fun x => !f x).isEmpty = l.all f := by
  induction l with
  | nil => rfl
  | cons x r ih =>
    rw [List.filter_cons, List.all_cons]
    cases f x with
    | true => rw [if_neg (by decide), ih]; rfl
    | false => rw [if_pos (show (!false) = true from rfl)]; rfl
theorem flat_texts (l : List Str) : (l.map V.str).all flatV = true := List.all_eq_true.mpr fun v hv => by
  obtain ⟨z, _, rfl⟩ := List.mem_map.mp hv
  rfl
theorem op_inK {X : Cx} {K : PySem.W.Frag} (hk : X.K = K) : OpR X (compareOp .In) (rIn K false) := hk ▸ op_in_seq
theorem op_ninK {X : Cx} {K : PySem.W.Frag} (hk : X.K = K) : OpR X (compareOp .NotIn) (rIn K true) := hk ▸ op_notIn_seq
theorem x_inS {K : PySem.W.Frag} {p : Addr} {l : List Str} {x : Str} {H : Hp} {Q : VK} (hs : SqL K H p (l.map V.str)) (h : Q (.bl (decide (x ∈ l))) H) : rIn K false (.str x) (.ref p) H Q := x_inL hs rfl (flat_texts l) (by rw [inV_strs]; exact h)
theorem x_notInS {K : PySem.W.Frag} {p : Addr} {l : List Str} {x : Str} {H : Hp} {Q : VK} (hs : SqL K H p (l.map V.str)) (h : Q (.bl (!decide (x ∈ l))) H) : rIn K true (.str x) (.ref p) H Q := x_notInL hs rfl (flat_texts l) (by rw [inV_strs]; exact h)
/-- a comprehension over a list, by tests and items that add to the heap -/
theorem lc_same {K : PySem.W.Frag} {a : Addr} {xs : List V} {g : TG} {tt : TT} {te : TE} {vs : List Nat} {σ : L2.St} {H1 : Hp} {D : Addr} {Qd : Hp → Prop} (f : V → Bool) (v : V → V)
    (hx : SqL K H1 a xs) (hn : H1 D = none) (hz : xs.length < 100000)
    (hs : ∀ x H (acc : List V) (R : Hp → Prop), x ∈ xs → Same H1 H → H D = some (.lst acc) → acc.length < sizeLine → (f x = true → ∀ H4, Same H H4 → R (upd H4 D (.lst (acc ++ [v x])))) → (f x = false → ∀ H4, Same H H4 → R H4) → g x (wipe σ vs) H fun σ2 H2 => wipe σ2 vs = wipe σ vs ∧ tt σ2 H2 fun b H3 =>
      if b = true then te σ2 H3 fun y H4 => ∃ acc, H4 D = some (.lst acc) ∧ acc.length < sizeLine ∧ R (upd H4 D (.lst (acc ++ [y]))) else R H3)
    (hd : ∀ H', Same H1 H' → H' D = some (.lst ((xs.filter f).map v)) → Qd H') :
    ∃ W : Nat → Nat → Hp → Prop, (∃ m, W 0 m (upd H1 D (.lst []))) ∧ ∀ i m H, W i m H →
      ((Itl K a).stop i H ∧ Qd H) ∨ ((Itl K a).go i H ∧ ∃ Nx : Hp → Prop, (∀ H', Nx H' → ∃ m', m' < m ∧ W (i + 1) m' H') ∧ ∀ x H', (Itl K a).yld i H x H' → g x (wipe σ vs) H' fun σ2 H2 => wipe σ2 vs = wipe σ vs ∧ tt σ2 H2 fun b H3 =>
        if b = true then te σ2 H3 fun y H4 => ∃ acc, H4 D = some (.lst acc) ∧ acc.length < sizeLine ∧ Nx (upd H4 D (.lst (acc ++ [y]))) else Nx H3) := by
  refine lc_list (xs := xs) (fun i H => Hold (H D = some (.lst (((xs.take i).filter f).map v)) ∧ Same H1 H)) ⟨upd_same, same_upd hn⟩ (fun i H _ ⟨_, e⟩ => e.seq hx) (fun i x H hi e => ?_) (fun H e => ?_)
  · obtain ⟨e1, e2⟩ := e
    have hil := (List.getElem?_eq_some_iff.mp hi).1
    have htake : xs.take (i + 1) = xs.take i ++ [x] := by rw [List.take_add_one, hi]; rfl
    have hlen : (((xs.take i).filter f).map v).length < sizeLine := by
      rw [List.length_map]
      have h1 := List.length_filter_le f (xs.take i)
      rw [List.length_take] at h1
      have : (100000 : Nat) ≤ sizeLine := by decide
      omega
    refine hs x _ (((xs.take i).filter f).map v) _ (List.mem_of_getElem? hi) e2 e1 hlen (fun hf H4 s4 => ⟨?_, fun b o q => ?_⟩) (fun hf H4 s4 => ⟨?_, e2.trans s4⟩)
    · rw [htake, List.filter_append, List.map_append, upd_same, List.filter_cons_of_pos hf]
      rfl
    · rw [upd_ne (ne_of_none q hn)]
      exact s4 _ _ (e2 _ _ q)
    · rw [htake, List.filter_append, List.map_append, List.filter_cons_of_neg (by rw [hf]; decide), s4 _ _ e1]
      simp
  · obtain ⟨e1, e2⟩ := e
    rw [List.take_length] at e1
    exact hd H e2 e1
theorem metD_iff (xs : List Str) : ((MPX.metD xs).length = xs.length) ↔ xs.Nodup := by
  have h := MPX.metD_nodup xs [] List.nodup_nil
  simpa [MPX.metD] using h
/-! ### what the law's own reader knows, in the heap -/
def lsK (ad : Nat → Addr) : List (Key × V) := [(Sum.inr ("modes" : Str), .ref (ad 0)), (Sum.inr ("starts" : Str), .ref (ad 1)), (Sum.inr ("procs" : Str), .ref (ad 2)), (Sum.inr ("stack" : Str), .ref (ad 3)), (Sum.inr ("called" : Str), .ref (ad 4))]
structure MoAt (H : Hp) (ad : Nat → Addr) (ma : List (Str × Addr)) (ms : List (Str × List Str)) : Prop where
  len : ma.length = ms.length
  som : ∀ k, (look ma k).isSome = (look ms k).isSome
  val : ∀ k a, look ma k = some a → ∃ vs, look ms k = some vs ∧ H a = some (.lst (vs.map V.str)) ∧ ∀ i < 5, a ≠ ad i
structure LSAt (H : Hp) (p : Addr) (ad : Nat → Addr) (S : LS) : Prop where
  dc : H p = some (.dK (lsK ad))
  t0 : ∃ ma, H (ad 0) = some (.dK (kS V.ref ma)) ∧ MoAt H ad ma S.modes
  t1 : H (ad 1) = some (.lst (S.starts.map V.str))
  t2 : H (ad 2) = some (.lst (S.procs.map V.str))
  t3 : H (ad 3) = some (.lst (S.stack.map V.str))
  t4 : H (ad 4) = some (.lst (S.called.map V.str))
  inj : ∀ i j, i < 5 → j < 5 → ad i = ad j → i = j
  np : ∀ i, i < 5 → p ≠ ad i
def FrS (ad : Nat → Addr) (H H' : Hp) : Prop := ∀ b o, H b = some o → (∀ i < 5, b ≠ ad i) → H' b = some o
theorem FrS.refl {ad : Nat → Addr} {H : Hp} : FrS ad H H := fun _ _ e _ => e
theorem FrS.trans {ad : Nat → Addr} {H H1 H2 : Hp} (a : FrS ad H H1) (b : FrS ad H1 H2) : FrS ad H H2 := fun c o e n => b c o (a c o e n) n
theorem FrS.of {ad : Nat → Addr} {H H1 : Hp} (s : Same H H1) : FrS ad H H1 := fun c o e _ => s c o e
theorem FrS.put {ad : Nat → Addr} {H : Hp} {i : Nat} {o : HO} (hi : i < 5) : FrS ad H (upd H (ad i) o) := fun c u e m => by rw [upd_ne (m i hi)]; exact e
theorem MoAt.mono {H H' : Hp} {ad : Nat → Addr} {ma : List (Str × Addr)} {ms : List (Str × List Str)} (m : MoAt H ad ma ms) (k : ∀ b o, H b = some o → (∀ i < 5, b ≠ ad i) → H' b = some o) : MoAt H' ad ma ms :=
  ⟨m.len, m.som, fun x a h => let ⟨vs, e, q, n⟩ := m.val x a h; ⟨vs, e, k _ _ q n, n⟩⟩
theorem LSAt.same {H H' : Hp} {p : Addr} {ad : Nat → Addr} {S : LS} (r : LSAt H p ad S) (s : Same H H') : LSAt H' p ad S :=
  let ⟨ma, e, m⟩ := r.t0
  ⟨s _ _ r.dc, ⟨ma, s _ _ e, m.mono fun b o e _ => s _ _ e⟩, s _ _ r.t1, s _ _ r.t2, s _ _ r.t3, s _ _ r.t4, r.inj, r.np⟩
theorem LSAt.get {H : Hp} {p : Addr} {ad : Nat → Addr} {S : LS} (r : LSAt H p ad S) (i : Nat) (hi : i < 5) : ∃ o, H (ad i) = some o := by
  obtain ⟨ma, e, _⟩ := r.t0
  rcases (show i = 0 ∨ i = 1 ∨ i = 2 ∨ i = 3 ∨ i = 4 by omega) with rfl | rfl | rfl | rfl | rfl
  · exact ⟨_, e⟩
  · exact ⟨_, r.t1⟩
  · exact ⟨_, r.t2⟩
  · exact ⟨_, r.t3⟩
  · exact ⟨_, r.t4⟩
theorem LSAt.fresh {H : Hp} {p : Addr} {ad : Nat → Addr} {S : LS} (r : LSAt H p ad S) {q : Addr} (n : H q = none) : ∀ i < 5, q ≠ ad i := fun i hi e => by
  obtain ⟨o, ho⟩ := r.get i hi
  rw [← e, n] at ho
  cases ho
section
variable {H : Hp} {p : Addr} {ad : Nat → Addr} {S : LS}
theorem LSAt.put1 (r : LSAt H p ad S) (l : List Str) : LSAt (upd H (ad 1) (.lst (l.map V.str))) p ad { S with starts := l } := by
  obtain ⟨ma, e, m⟩ := r.t0
  have ne : ∀ j, j < 5 → j ≠ 1 → ad j ≠ ad 1 := fun j hj h z => h (r.inj j 1 hj (by decide) z)
  exact ⟨by rw [upd_ne (r.np 1 (by decide))]; exact r.dc, ⟨ma, by rw [upd_ne (ne 0 (by decide) (by decide))]; exact e, m.mono fun b o q n => by rw [upd_ne (n 1 (by decide))]; exact q⟩, upd_same,
    by rw [upd_ne (ne 2 (by decide) (by decide))]; exact r.t2, by rw [upd_ne (ne 3 (by decide) (by decide))]; exact r.t3, by rw [upd_ne (ne 4 (by decide) (by decide))]; exact r.t4, r.inj, r.np⟩
theorem LSAt.put2 (r : LSAt H p ad S) (l : List Str) : LSAt (upd H (ad 2) (.lst (l.map V.str))) p ad { S with procs := l } := by
  obtain ⟨ma, e, m⟩ := r.t0
  have ne : ∀ j, j < 5 → j ≠ 2 → ad j ≠ ad 2 := fun j hj h z => h (r.inj j 2 hj (by decide) z)
  exact ⟨by rw [upd_ne (r.np 2 (by decide))]; exact r.dc, ⟨ma, by rw [upd_ne (ne 0 (by decide) (by decide))]; exact e, m.mono fun b o q n => by rw [upd_ne (n 2 (by decide))]; exact q⟩, by rw [upd_ne (ne 1 (by decide) (by decide))]; exact r.t1, upd_same,
    by rw [upd_ne (ne 3 (by decide) (by decide))]; exact r.t3, by rw [upd_ne (ne 4 (by decide) (by decide))]; exact r.t4, r.inj, r.np⟩
theorem LSAt.put3 (r : LSAt H p ad S) (l : List Str) : LSAt (upd H (ad 3) (.lst (l.map V.str))) p ad { S with stack := l } := by
  obtain ⟨ma, e, m⟩ := r.t0
  have ne : ∀ j, j < 5 → j ≠ 3 → ad j ≠ ad 3 := fun j hj h z => h (r.inj j 3 hj (by decide) z)
  exact ⟨by rw [upd_ne (r.np 3 (by decide))]; exact r.dc, ⟨ma, by rw [upd_ne (ne 0 (by decide) (by decide))]; exact e, m.mono fun b o q n => by rw [upd_ne (n 3 (by decide))]; exact q⟩, by rw [upd_ne (ne 1 (by decide) (by decide))]; exact r.t1,
    by rw [upd_ne (ne 2 (by decide) (by decide))]; exact r.t2, upd_same, by rw [upd_ne (ne 4 (by decide) (by decide))]; exact r.t4, r.inj, r.np⟩
theorem LSAt.put4 (r : LSAt H p ad S) (l : List Str) : LSAt (upd H (ad 4) (.lst (l.map V.str))) p ad { S with called := l } := by
  obtain ⟨ma, e, m⟩ := r.t0
  have ne : ∀ j, j < 5 → j ≠ 4 → ad j ≠ ad 4 := fun j hj h z => h (r.inj j 4 hj (by decide) z)
  exact ⟨by rw [upd_ne (r.np 4 (by decide))]; exact r.dc, ⟨ma, by rw [upd_ne (ne 0 (by decide) (by decide))]; exact e, m.mono fun b o q n => by rw [upd_ne (n 4 (by decide))]; exact q⟩, by rw [upd_ne (ne 1 (by decide) (by decide))]; exact r.t1,
    by rw [upd_ne (ne 2 (by decide) (by decide))]; exact r.t2, by rw [upd_ne (ne 3 (by decide) (by decide))]; exact r.t3, upd_same, r.inj, r.np⟩
theorem LSAt.put0 (r : LSAt H p ad S) {ma : List (Str × Addr)} (e : H (ad 0) = some (.dK (kS V.ref ma))) (m : MoAt H ad ma S.modes) {k : Str} {a : Addr} {vs : List Str} (hk : (look S.modes k).isSome = false) (ha : H a = some (.lst (vs.map V.str))) (hn : ∀ i < 5, a ≠ ad i) :
    LSAt (upd H (ad 0) (.dK (kS V.ref (ma ++ [(k, a)])))) p ad { S with modes := S.modes ++ [(k, vs)] } := by
  have ne : ∀ j, j < 5 → j ≠ 0 → ad j ≠ ad 0 := fun j hj h z => h (r.inj j 0 hj (by decide) z)
  have h1 : look S.modes k = none := Option.not_isSome_iff_eq_none.mp (by rw [hk]; decide)
  have h2 : look ma k = none := Option.not_isSome_iff_eq_none.mp (by rw [m.som, hk]; decide)
  refine ⟨by rw [upd_ne (r.np 0 (by decide))]; exact r.dc, ⟨_, upd_same, ⟨by rw [List.length_append, List.length_append, m.len]; rfl, fun j => ?_, fun j b hb => ?_⟩⟩, by rw [upd_ne (ne 1 (by decide) (by decide))]; exact r.t1,
    by rw [upd_ne (ne 2 (by decide) (by decide))]; exact r.t2, by rw [upd_ne (ne 3 (by decide) (by decide))]; exact r.t3, by rw [upd_ne (ne 4 (by decide) (by decide))]; exact r.t4, r.inj, r.np⟩
  · show (look (ma ++ [(k, a)]) j).isSome = (look (S.modes ++ [(k, vs)]) j).isSome
    rw [look_append _ _ h2, look_append _ _ h1]
    by_cases z : k = j
    · rw [if_pos z, if_pos z]
      rfl
    · rw [if_neg z, if_neg z]
      exact m.som j
  · show ∃ vs_1, look (S.modes ++ [(k, vs)]) j = some vs_1 ∧ _
    rw [look_append _ _ h1]
    rw [look_append _ _ h2] at hb
    by_cases z : k = j
    · rw [if_pos z] at hb ⊢
      cases hb
      exact ⟨vs, rfl, by rw [upd_ne (hn 0 (by decide))]; exact ha, hn⟩
    · rw [if_neg z] at hb ⊢
      obtain ⟨ws, e1, e2, e3⟩ := m.val j b hb
      exact ⟨ws, e1, by rw [upd_ne (e3 0 (by decide))]; exact e2, e3⟩
end
/-- few entries -/
structure SmS (S : LS) : Prop where
  s0 : S.modes.length < 1000
  s1 : S.starts.length < 1000
  s2 : S.procs.length < 1000
  s3 : S.stack.length < 1000
  s4 : S.called.length < 1000
/-- the words of a line, in the heap -/
structure WdS (K : PySem.W.Frag) (H : Hp) (ad : Nat → Addr) (a : Addr) (ws : List Str) : Prop where
  at_ : H a = some (.lst (ws.map V.str))
  na : ∀ i < 5, a ≠ ad i
  len : ws.length < 10000
  el : ∀ x ∈ ws, x.length ≤ 10000
theorem WdS.same {K : PySem.W.Frag} {H H' : Hp} {ad : Nat → Addr} {a : Addr} {ws : List Str} (x : WdS K H ad a ws) (s : Same H H') : WdS K H' ad a ws := ⟨s _ _ x.at_, x.na, x.len, x.el⟩
theorem WdS.fro {K : PySem.W.Frag} {H H' : Hp} {ad : Nat → Addr} {a : Addr} {ws : List Str} (x : WdS K H ad a ws) (s : FrS ad H H') : WdS K H' ad a ws := ⟨s _ _ x.at_ x.na, x.na, x.len, x.el⟩
/-- what a def of the law's reader answers -/
def LsPost (p : Addr) (ad : Nat → Addr) (H : Hp) (b : Bool) (S : LS) (Q : VK) : Prop := (b = false → ∀ H', FrS ad H H' → Q (.bl false) H') ∧ (b = true → ∀ H', FrS ad H H' → LSAt H' p ad S → Q (.bl true) H')
/-! ### what a text is -/
def splE (z : Str) : List Str := PySem.Txt.split z "="
def rowsOf (z : Str) : List Str := PySem.Txt.split z "\n"
def runM (z : Str) : Int ⊕ LS := lRun isName isPrice splE wordsOf (rowsOf z) LS.empty 1
/-- how a text is refused; none: it is read -/
def dueM (z : Str) : Option (Int ⊕ Str) :=
  if 6000 < z.length then some (.inr "characters") else if 120 < (rowsOf z).length then some (.inr "lines") else match runM z with
    | .inl l => some (.inl l)
    | .inr S => if lEnd S then none else some (.inl ((rowsOf z).length + 1))
theorem itemOf_eq (x : Str) : itemOf x = match splE x with | [u, v] => if (isName u && (decide (v = ("?" : Str)) || isName v)) = true then some (u, v) else none | _ => none := by
  show itemP (splE x) = _
  match splE x with
  | [] => rfl
  | [_] => rfl
  | [_, _] => rfl
  | _ :: _ :: _ :: _ => rfl
section
variable {nm : Str → Bool} {line : Int} {R : RdM} {S : LS}
theorem Abs.ends (a : Abs nm line R S) : endOk R ↔ lEnd S := by
  unfold endOk lEnd
  have h1 : (look R.routines ("main" : Str)).isSome = true ↔ ("main" : Str) ∈ S.procs := by rw [look_isSome, a.pr]; exact decide_eq_true_iff
  have h2 : (∀ x ∈ R.calls, (look R.routines x.2).isSome = true) ↔ ∀ c ∈ S.called, c ∈ S.procs := by
    rw [← a.ca]
    refine ⟨fun h c hc => ?_, fun h x hx => ?_⟩
    · obtain ⟨x, hx, rfl⟩ := List.mem_map.mp hc
      have := h x hx
      rw [look_isSome, a.pr] at this
      exact of_decide_eq_true this
    · rw [look_isSome, a.pr]
      exact decide_eq_true (h _ (List.mem_map.mpr ⟨x, hx, rfl⟩))
  rw [h1, h2, a.stackE]
end
/-- a program of any text -/
theorem pinit_any {CP CB CT x dx : Addr} {z : Str} {H : Hp} {Q : VK} {E : XK} (hx : H x = some (.ins CP dx [])) (hz : z.length + 2 ≤ sizeLine)
    (k : dueM z = none → ∀ R S l ad mo pr bh fh H', runM z = .inr S → Abs isName l R S → Sm R → Sm2 R → (∀ b o, H b = some o → b ≠ x → H' b = some o) → ProgAt CP H' x ad mo pr bh fh R z (behM R) (firM R) → H' (ad 4) = some (.dK (kI V.str R.owners)) → Q .non H')
    (kb : ∀ l, dueM z = some (.inl l) → ErrD CB "line" (.int l) H E) (kt : ∀ y, dueM z = some (.inr y) → ErrD CT "what" (.str y) H E) : sp_pinit CP CB CT [.ref x, .str z] H Q E := by
  refine ⟨x, dx, z, rfl, hx, hz, fun h => kt _ (if_pos h), fun h1 h2 => kt _ ((if_neg (by omega)).trans (if_pos h2)), fun h1 h2 => ?_⟩
  have hd : dueM z = match runM z with | .inl l => some (.inl l) | .inr S => if lEnd S then none else some (.inl ((rowsOf z).length + 1)) := (if_neg (by omega)).trans (if_neg (show ¬ 120 < (rowsOf z).length by show ¬ 120 < (PySem.Txt.split z "\n").length; omega))
  refine RunW_of (sp := splE) itemOf_eq (rowsOf z) 1 RdM.empty LS.empty (Abs.start _ _) (fun l hl => kb l ?_) (fun S R l hr a => ⟨fun ok => ?_, fun nk => kb _ ?_⟩)
  · rw [hd, show runM z = .inl l from hl]
  · refine ⟨a.behind ok.1, fun sm sm2 ad mo pr bh fh H' fr pa ho => k ?_ R S l ad mo pr bh fh H' hr a sm sm2 fr pa ho⟩
    rw [hd, show runM z = .inr S from hr]
    exact if_pos (a.ends.mp ok)
  · rw [hd, show runM z = .inr S from hr]
    exact if_neg fun q => nk (a.ends.mpr q)
end MP
end
section
namespace MP
open PySem L2
/-! ### names that the laws draw -/
theorem tl_to (z : Str) (k : Nat) : TL.tl (cutS z none (some (k : Int))) = (TL.tl z).take k := by
  show (z.cps.toList.drop (HT.sIx z.length 0 none)).take (HT.sIx z.length z.length (some (k : Int)) - HT.sIx z.length 0 none) = z.cps.toList.take k
  rw [HT.sIx_nat, HT.sIx_none, List.drop_zero, Nat.sub_zero]
  have h : z.cps.toList.length = z.length := by simp [Str.length]
  by_cases e : k ≤ z.length
  · rw [Nat.min_eq_left e]
  · rw [Nat.min_eq_right (by omega), List.take_of_length_le (by omega), List.take_of_length_le (by omega)]
theorem tl_from (z : Str) (k : Nat) : TL.tl (cutS z (some (k : Int)) none) = (TL.tl z).drop k := by
  show (z.cps.toList.drop (HT.sIx z.length 0 (some (k : Int)))).take (HT.sIx z.length z.length none - HT.sIx z.length 0 (some (k : Int))) = z.cps.toList.drop k
  rw [HT.sIx_nat, HT.sIx_none]
  have h : z.cps.toList.length = z.length := by simp [Str.length]
  by_cases e : k ≤ z.length
  · rw [Nat.min_eq_left e, List.take_of_length_le (by rw [List.length_drop]; omega)]
  · rw [Nat.min_eq_right (by omega), List.drop_of_length_le (by omega), List.drop_of_length_le (by omega), List.take_nil]
def letters26 : List Nat := (List.range 26).map (97 + ·)
theorem lettersS_tl : lettersS.cps.toList = letters26 := by decide +kernel
def insC (stem : Str) (k c : Nat) : Str := (cutS stem none (some (k : Int)) ++ ⟨#[c]⟩) ++ cutS stem (some (k : Int)) none
theorem tl_ins (stem : Str) (k c : Nat) : TL.tl (insC stem k c) = (TL.tl stem).take k ++ c :: (TL.tl stem).drop k := by
  unfold insC
  rw [TL.tl_append, TL.tl_append, tl_to, tl_from, List.append_assoc]
  rfl
theorem ins_inj {stem : Str} {k c d : Nat} (h : insC stem k c = insC stem k d) : c = d := by
  have h1 := congrArg TL.tl h
  rw [tl_ins, tl_ins] at h1
  exact (List.cons.inj (List.append_cancel_left h1)).1
theorem ins_len (stem : Str) (k c : Nat) : (insC stem k c).length = stem.length + 1 := by
  rw [TL.len_tl, tl_ins, TL.len_tl, List.length_append, List.length_cons, List.length_take, List.length_drop]
  omega
def drawnC (f s j : Nat) : Nat := 97 + (f + s * j) % 26
def stepsL : List Nat := [1, 3, 5, 7, 9, 11]
theorem drawn_inj {f s i j : Nat} (hs : s ∈ stepsL) (hi : i < 26) (hj : j < 26) (h : drawnC f s i = drawnC f s j) : i = j := by
  unfold drawnC at h
  simp only [stepsL, List.mem_cons, List.not_mem_nil, or_false] at hs
  rcases hs with rfl | rfl | rfl | rfl | rfl | rfl <;> omega
theorem drawn_mem (f s j : Nat) : drawnC f s j ∈ letters26 := by
  unfold drawnC letters26
  exact List.mem_map.mpr ⟨_, List.mem_range.mpr (Nat.mod_lt _ (by decide)), rfl⟩
def foundL (stem : Str) (k f s : Nat) : List Str := (List.range 26).map fun j => insC stem k (drawnC f s j)
theorem nodup_map_on {α β : Type} {g : α → β} : ∀ {l : List α}, l.Nodup → (∀ a ∈ l, ∀ b ∈ l, g a = g b → a = b) → (l.map g).Nodup
  | [], _, _ => List.nodup_nil
  | a :: r, h, q => by
    rw [List.map_cons, List.nodup_cons]
    rw [List.nodup_cons] at h
    refine ⟨fun hm => ?_, nodup_map_on h.2 fun x hx y hy => q x (List.mem_cons_of_mem _ hx) y (List.mem_cons_of_mem _ hy)⟩
    obtain ⟨b, hb, e⟩ := List.mem_map.mp hm
    have := q b (List.mem_cons_of_mem _ hb) a List.mem_cons_self e
    exact h.1 (this ▸ hb)
theorem nodup_sub {α : Type} [DecidableEq α] : ∀ {l m : List α}, l.Nodup → (∀ x ∈ l, x ∈ m) → l.length ≤ m.length
  | [], _, _, _ => Nat.zero_le _
  | a :: r, m, h, q => by
    rw [List.nodup_cons] at h
    have h1 : a ∈ m := q a List.mem_cons_self
    have h2 := nodup_sub (l := r) (m := m.erase a) h.2 fun x hx => (List.mem_erase_of_ne (fun e => h.1 (by rw [← e]; exact hx))).mpr (q x (List.mem_cons_of_mem _ hx))
    rw [List.length_erase_of_mem h1] at h2
    have h3 : 0 < m.length := List.length_pos_of_mem h1
    rw [List.length_cons]
    omega
theorem found_nodup {stem : Str} {k f s : Nat} (hs : s ∈ stepsL) : (foundL stem k f s).Nodup :=
  nodup_map_on List.nodup_range fun a ha b hb e => drawn_inj hs (List.mem_range.mp ha) (List.mem_range.mp hb) (ins_inj e)
/-- names that a law draws -/
structure NmOk (l : List Str) (many : Nat) : Prop where
  len : l.length = many
  nd : l.Nodup
  nm : ∀ x ∈ l, isName x = true
theorem filt_len {α : Type} (p : α → Bool) : ∀ l : List α, (l.filter p).length + (l.filter fun x => !p x).length = l.length
  | [] => rfl
  | a :: r => by
    have ih := filt_len p r
    rw [List.filter_cons, List.filter_cons]
    cases e : p a with
    | true => simp only [if_true, Bool.not_true, Bool.false_eq_true, if_false, List.length_cons]; omega
    | false => simp only [if_false, Bool.not_false, if_true, Bool.false_eq_true, List.length_cons]; omega
theorem name_len {z : Str} (h : isName z = true) : z.length ≤ 12 := by
  unfold isName at h
  have h1 := (Bool.and_eq_true_iff.mp h).1
  by_cases e : 12 < z.length
  · rw [decide_eq_true e] at h1
    simp at h1
  · omega
theorem names_ok {stem : Str} {k f s many : Nat} (hs : s ∈ stepsL) (hst : ∀ c ∈ TL.tl stem, c ∈ letters26) (hl : stem.length ≤ 11) (hm : many ≤ 12) :
    NmOk (((foundL stem k f s).filter fun z => !decide (z ∈ keyW)).take many) many := by
  have hnd : ((foundL stem k f s).filter fun z => !decide (z ∈ keyW)).Nodup := (found_nodup hs).filter _
  refine ⟨?_, hnd.sublist (List.take_sublist _ _), fun x hx => ?_⟩
  · rw [List.length_take]
    have h1 := filt_len (fun z => decide (z ∈ keyW)) (foundL stem k f s)
    have h2 : ((foundL stem k f s).filter fun z => decide (z ∈ keyW)).length ≤ keyW.length := nodup_sub ((found_nodup hs).filter _) fun x hx => of_decide_eq_true (List.mem_filter.mp hx).2
    have h3 : keyW.length = 14 := by decide
    have h4 : (foundL stem k f s).length = 26 := by unfold foundL; rw [List.length_map, List.length_range]
    omega
  · have hx := List.mem_filter.mp (List.mem_of_mem_take hx)
    obtain ⟨j, _, rfl⟩ := List.mem_map.mp hx.1
    have hn : decide (insC stem k (drawnC f s j) ∈ keyW) = false := by simpa using hx.2
    have h5 := ins_len stem k (drawnC f s j)
    unfold isName
    rw [hn, decide_eq_false (fun z => by rw [z] at h5; have : ((("" : Str)).length) = 0 := by decide +kernel
                                         omega), decide_eq_false (by omega)]
    show madeOf _ _ = true
    unfold madeOf
    rw [lettersS_tl]
    refine List.all_eq_true.mpr fun c hc => decide_eq_true ?_
    have hc : c ∈ TL.tl (insC stem k (drawnC f s j)) := hc
    rw [tl_ins] at hc
    rcases List.mem_append.mp hc with hc | hc
    · exact hst c (List.mem_of_mem_take hc)
    · rcases List.mem_cons.mp hc with rfl | hc
      · exact drawn_mem _ _ _
      · exact hst c (List.mem_of_mem_drop hc)
/-- a text of single signs -/
theorem join_signs (cs : List Nat) : TL.tl (Txt.join ("" : Str) (cs.map fun c => (⟨#[c]⟩ : Str))) = cs := by
  rw [TL.join_eq, TL.tl_join]
  have e : TL.tl ("" : Str) = [] := by decide +kernel
  rw [e, List.map_map]
  induction cs with
  | nil => rfl
  | cons c r ih =>
    cases r with
    | nil => rfl
    | cons d r => 
      show [c] ++ ([] ++ _) = _
      rw [List.nil_append]
      exact congrArg (c :: ·) ih
end MP
end
section
namespace MP
open PySem L2
/-! ### comprehensions that draw -/
theorem PenL.dcE {H : Hp} {d l : Addr} {ns : List Int} {n : Nat} (p : PenL H d l ns n) : ∃ kv, H d = some (.dK kv) := let ⟨_, _, q, _⟩ := p; ⟨_, q.dc⟩
theorem Kept.lst {H H' : Hp} {d l b : Addr} {ns : List Int} {n : Nat} {xs : List V} (k : Kept d H H') (p : PenL H d l ns n) (e : H b = some (.lst xs)) : H' b = some (.lst xs) := let ⟨_, q⟩ := p.dcE; k _ _ e (ne_of e q fun z => by cases z)
theorem Kept.tup {H H' : Hp} {d l b : Addr} {ns : List Int} {n : Nat} {xs : List V} (k : Kept d H H') (p : PenL H d l ns n) (e : H b = some (.tup xs)) : H' b = some (.tup xs) := let ⟨_, q⟩ := p.dcE; k _ _ e (ne_of e q fun z => by cases z)
theorem Kept.seqL {K : PySem.W.Frag} {H H' : Hp} {d l b : Addr} {ns : List Int} {n : Nat} {xs : List V} (k : Kept d H H') (p : PenL H d l ns n) (e : SqL K H b xs) : SqL K H' b xs := by
  obtain ⟨x, y, q, _⟩ := p
  exact k.seq q.dc e
theorem Kept.at_ {H H' : Hp} {d l b : Addr} {ns : List Int} {n : Nat} {o : HO} (k : Kept d H H') (p : PenL H d l ns n) (e : H b = some o) (h : ∀ kv, o ≠ .dK kv) : H' b = some o := let ⟨_, q⟩ := p.dcE; k _ _ e (ne_of e q (h _))
theorem Kept.dict {H H' : Hp} {d b : Addr} {o : HO} (k : Kept d H H') (e : H b = some o) (h : b ≠ d) : H' b = some o := k _ _ e h
theorem PenL.kept {H : Hp} {d l : Addr} {ns : List Int} {n : Nat} {q : Addr} (p : PenL H d l ns n) (h : H q = none) : q ≠ d := (p.ne h).1
theorem Kept.free {H H' : Hp} {d q : Addr} (k : Kept d H H') (h : H' q = none) (hd : q ≠ d) : H q = none := by
  cases e : H q with
  | none => rfl
  | some o => rw [k _ _ e hd] at h; cases h
theorem nw_same {H H' : Hp} {p : Addr} {o : HO} (e : upd H p o = H') (n : H p = none) : Same H H' := e ▸ same_upd n
theorem nw_at {H H' : Hp} {p : Addr} {o : HO} (e : upd H p o = H') : H' p = some o := e ▸ upd_same
theorem Same.rfl' {H : Hp} : Same H H := fun _ _ e => e
theorem Same.at {H H' : Hp} {b : Addr} {o : HO} (s : Same H H') (e : H b = some o) : H' b = some o := s _ _ e
theorem Same.snoc {H H1 H' : Hp} (s : Same H1 H') (r : Same H H1) : Same H H' := fun b o e => s b o (r b o e)
theorem SqL.up {K : PySem.W.Frag} {H H' : Hp} {a : Addr} {xs : List V} (s : Same H H') (e : SqL K H a xs) : SqL K H' a xs := s.seq e
theorem SqL.kp {K : PySem.W.Frag} {H H' : Hp} {d l b : Addr} {ns : List Int} {n : Nat} {xs : List V} (k : Kept d H H') (p : PenL H d l ns n) (e : SqL K H b xs) : SqL K H' b xs := k.seqL p e
theorem PenL.up {H H' : Hp} {d l : Addr} {ns : List Int} {n : Nat} (s : Same H H') (p : PenL H d l ns n) : PenL H' d l ns n := p.mono s
theorem Kept.snoc {d : Addr} {H H1 H' : Hp} (k : Kept d H1 H') (r : Kept d H H1) : Kept d H H' := r.trans k
theorem Kept.snocS {d : Addr} {H H1 H' : Hp} (s : Same H1 H') (r : Kept d H H1) : Kept d H H' := r.trans (Kept.of s)
theorem x_rgV {ta : TA} {σ : L2.St} {H : Hp} {R : It → Hp → Prop} (h : ta σ H fun vs H1 => ∃ j : Int, vs = [.int j] ∧ -(2 ^ 62) ≤ j ∧ j < 2 ^ 62 ∧ R (Itr 0 j.toNat) H1) : iRng1 ta σ H R := h
theorem x_gtup3g {K : PySem.W.Frag} {T : Addr} {x y z : V} {i j k : Nat} {σ : L2.St} {H : Hp} {Q : L2.St → Hp → Prop} (h : H T = some (.tup [x, y, z])) (q : Q (((σ.set i (some x)).set j (some y)).set k (some z)) H) : gTup K 3 (gCons (gName i) (gCons (gName j) (gCons (gName k) gNil))) (.ref T) σ H Q :=
  ⟨T, [x, y, z], rfl, SqT.of h, rfl, x, [y, z], rfl, y, [z], rfl, z, [], rfl, rfl, q⟩
theorem cutV_toG (xs : List V) (k : Nat) : cutV xs none (some (k : Int)) = xs.take k := by
  unfold cutV
  rw [HT.sIx_nat, HT.sIx_none, Nat.sub_zero, List.drop_zero]
  by_cases h : k ≤ xs.length
  · rw [Nat.min_eq_left h]
  · rw [Nat.min_eq_right (by omega), List.take_of_length_le (Nat.le_refl _), List.take_of_length_le (by omega)]
theorem lc_penR {α : Type} {lo : Int} {n c m0 : Nat} {g : TG} {tt : TT} {te : TE} {vs : List Nat} {σ : L2.St} {H1 : Hp} {D d cl : Addr} {ns : List Int} {Qd : Hp → Prop} (f : α → V) (P : Nat → α → Prop)
    (nD : H1 D = none) (hp : PenL H1 d cl ns m0) (hn : n < 100000)
    (hs : ∀ i H (R : V → Hp → Prop) (R0 : Hp → Prop), i < n → PenL H d cl ns (m0 + c * i) → Kept d H1 H → (∀ a H4, P i a → PenL H4 d cl ns (m0 + c * i + c) → Kept d H H4 → R (f a) H4) →
      g (.int (lo + i)) (wipe σ vs) H fun σ2 H2 => wipe σ2 vs = wipe σ vs ∧ tt σ2 H2 fun b H3 => if b = true then te σ2 H3 R else R0 H3)
    (hd : ∀ (acc : List α) H', acc.length = n → (∀ i a, acc[i]? = some a → P i a) → H' D = some (.lst (acc.map f)) → PenL H' d cl ns (m0 + c * n) → Kept d H1 H' → Qd H') :
    ∃ W : Nat → Nat → Hp → Prop, (∃ m, W 0 m (upd H1 D (.lst []))) ∧ ∀ i m H, W i m H →
      ((Itr lo n).stop i H ∧ Qd H) ∨ ((Itr lo n).go i H ∧ ∃ Nx : Hp → Prop, (∀ H', Nx H' → ∃ m', m' < m ∧ W (i + 1) m' H') ∧ ∀ x H', (Itr lo n).yld i H x H' → g x (wipe σ vs) H' fun σ2 H2 => wipe σ2 vs = wipe σ vs ∧ tt σ2 H2 fun b H3 =>
        if b = true then te σ2 H3 fun y H4 => ∃ acc, H4 D = some (.lst acc) ∧ acc.length < sizeLine ∧ Nx (upd H4 D (.lst (acc ++ [y]))) else Nx H3) := by
  obtain ⟨hD1, hD2⟩ := hp.ne nD
  refine lc_range (n := n) (fun i H => Hold (∃ acc : List α, acc.length = i ∧ (∀ j a, acc[j]? = some a → P j a) ∧ H D = some (.lst (acc.map f)) ∧ PenL H d cl ns (m0 + c * i) ∧ Kept d H1 H)) ⟨[], rfl, fun _ _ h => by simp at h, upd_same, hp.mono (same_upd nD), Kept.of (same_upd nD)⟩ ?_ ?_
  · rintro i H hi ⟨acc, hl, hP, hD, hpen, hk⟩
    refine hs i H _ _ hi hpen hk fun a H4 ha p4 k4 => ?_
    have e4 := k4 _ _ hD hD1
    refine ⟨_, e4, by rw [List.length_map]; have := big5; omega, acc ++ [a], by rw [List.length_append, hl]; rfl, fun j x hx => ?_, by rw [upd_same, List.map_append]; rfl, (by rw [Nat.mul_succ, ← Nat.add_assoc]; exact p4.off hD1 hD2), fun b o e n => by rw [upd_ne (ne_of_none e nD)]; exact k4 _ _ (hk _ _ e n) n⟩
    · by_cases hj : j < acc.length
      · rw [List.getElem?_append_left hj] at hx
        exact hP j x hx
      · rw [List.getElem?_append_right (by omega)] at hx
        have h2 : j - acc.length < [a].length := (List.getElem?_eq_some_iff.mp hx).1
        rw [List.length_singleton] at h2
        have h3 : j - acc.length = 0 := by omega
        rw [h3] at hx
        cases hx
        rw [show j = i by omega]
        exact ha
  · rintro H ⟨acc, hl, hP, hD, hpen, hk⟩
    exact hd acc H hl hP hD hpen hk
theorem lc_penL {α β : Type} {K : PySem.W.Frag} {a : Addr} {xs : List β} {fx : β → V} {c m0 : Nat} {g : TG} {tt : TT} {te : TE} {vs : List Nat} {σ : L2.St} {H1 : Hp} {D d cl : Addr} {ns : List Int} {Qd : Hp → Prop} (f : α → V) (P : Nat → α → Prop)
    (nD : H1 D = none) (hp : PenL H1 d cl ns m0) (hx : SqL K H1 a (xs.map fx)) (hn : xs.length < 100000)
    (hs : ∀ i x H (R : V → Hp → Prop) (R0 : Hp → Prop), xs[i]? = some x → PenL H d cl ns (m0 + c * i) → Kept d H1 H → (∀ a H4, P i a → PenL H4 d cl ns (m0 + c * i + c) → Kept d H H4 → R (f a) H4) →
      g (fx x) (wipe σ vs) H fun σ2 H2 => wipe σ2 vs = wipe σ vs ∧ tt σ2 H2 fun b H3 => if b = true then te σ2 H3 R else R0 H3)
    (hd : ∀ (acc : List α) H', acc.length = xs.length → (∀ i a, acc[i]? = some a → P i a) → H' D = some (.lst (acc.map f)) → PenL H' d cl ns (m0 + c * xs.length) → Kept d H1 H' → Qd H') :
    ∃ W : Nat → Nat → Hp → Prop, (∃ m, W 0 m (upd H1 D (.lst []))) ∧ ∀ i m H, W i m H →
      ((Itl K a).stop i H ∧ Qd H) ∨ ((Itl K a).go i H ∧ ∃ Nx : Hp → Prop, (∀ H', Nx H' → ∃ m', m' < m ∧ W (i + 1) m' H') ∧ ∀ x H', (Itl K a).yld i H x H' → g x (wipe σ vs) H' fun σ2 H2 => wipe σ2 vs = wipe σ vs ∧ tt σ2 H2 fun b H3 =>
        if b = true then te σ2 H3 fun y H4 => ∃ acc, H4 D = some (.lst acc) ∧ acc.length < sizeLine ∧ Nx (upd H4 D (.lst (acc ++ [y]))) else Nx H3) := by
  obtain ⟨hD1, hD2⟩ := hp.ne nD
  refine lc_list (xs := xs.map fx) (fun i H => Hold (∃ acc : List α, acc.length = i ∧ (∀ j a, acc[j]? = some a → P j a) ∧ H D = some (.lst (acc.map f)) ∧ PenL H d cl ns (m0 + c * i) ∧ Kept d H1 H)) ⟨[], rfl, fun _ _ h => by simp at h, upd_same, hp.mono (same_upd nD), Kept.of (same_upd nD)⟩ ?_ ?_ ?_
  · rintro i H _ ⟨acc, hl, hP, hD, hpen, hk⟩
    exact hk.seqL hp hx
  · rintro i y H hi ⟨acc, hl, hP, hD, hpen, hk⟩
    obtain ⟨x, hxi, rfl⟩ : ∃ x, xs[i]? = some x ∧ fx x = y := by
      rw [List.getElem?_map] at hi
      cases e : xs[i]? with
      | none => rw [e] at hi; cases hi
      | some x => rw [e] at hi; exact ⟨x, rfl, Option.some.inj hi⟩
    have hil := (List.getElem?_eq_some_iff.mp hxi).1
    refine hs i x H _ _ hxi hpen hk fun a H4 ha p4 k4 => ?_
    have e4 := k4 _ _ hD hD1
    refine ⟨_, e4, by rw [List.length_map]; have := big5; omega, acc ++ [a], by rw [List.length_append, hl]; rfl, fun j x hx => ?_, by rw [upd_same, List.map_append]; rfl, (by rw [Nat.mul_succ, ← Nat.add_assoc]; exact p4.off hD1 hD2), fun b o e n => by rw [upd_ne (ne_of_none e nD)]; exact k4 _ _ (hk _ _ e n) n⟩
    by_cases hj : j < acc.length
    · rw [List.getElem?_append_left hj] at hx
      exact hP j x hx
    · rw [List.getElem?_append_right (by omega)] at hx
      have h2 : j - acc.length < [a].length := (List.getElem?_eq_some_iff.mp hx).1
      rw [List.length_singleton] at h2
      have h3 : j - acc.length = 0 := by omega
      rw [h3] at hx
      cases hx
      rw [show j = i by omega]
      exact ha
  · rintro H ⟨acc, hl, hP, hD, hpen, hk⟩
    rw [List.length_map] at hl hpen
    exact hd acc H hl hP hD hpen hk
theorem x_tyL {K : PySem.W.Frag} {L : Addr} {xs : List V} {H : Hp} (h : H L = some (.lst xs)) : tyV K "list" (.ref L) H := Or.inl ⟨rfl, _, SqL.of h⟩
theorem x_app {K : PySem.W.Frag} {L : Addr} {xs : List V} {y : V} {H : Hp} {Q : VK} (h : H L = some (.lst xs)) (hl : xs.length < 100000) (q : Q .non (upd H L (.lst (xs ++ [y])))) : rAppend (.ref L) [y] H Q := ⟨L, xs, y, rfl, rfl, h, by have := big5; omega, q⟩
theorem x_appS {K : PySem.W.Frag} {L : Addr} {ls : List Str} {z : Str} {H : Hp} {Q : VK} (h : H L = some (.lst (ls.map V.str))) (hl : ls.length < 100000) (q : Q .non (upd H L (.lst ((ls ++ [z]).map V.str)))) : rAppend (.ref L) [.str z] H Q :=
  x_app (K := K) h (by rw [List.length_map]; exact hl) (by rw [List.map_append] at q; exact q)
theorem x_inAny {K : PySem.W.Frag} {p : Addr} {l : List Int} {x : Int} {H : Hp} {Q : VK} (hs : SqL K H p (l.map V.int)) (h : ∀ b, Q (.bl b) H) : rIn K false (.int x) (.ref p) H Q :=
  x_inL hs rfl (List.all_eq_true.mpr fun v hv => by obtain ⟨z, _, rfl⟩ := List.mem_map.mp hv; rfl) (h _)
theorem x_ninAny {K : PySem.W.Frag} {p : Addr} {l : List Int} {x : Int} {H : Hp} {Q : VK} (hs : SqL K H p (l.map V.int)) (h : ∀ b, Q (.bl b) H) : rIn K true (.int x) (.ref p) H Q :=
  x_notInL hs rfl (List.all_eq_true.mpr fun v hv => by obtain ⟨z, _, rfl⟩ := List.mem_map.mp hv; rfl) (h _)
/-- at most n texts of at most m signs each -/
structure Bd (n m : Nat) (l : List Str) : Prop where
  n : l.length ≤ n
  m : ∀ x ∈ l, x.length ≤ m
theorem Bd.nil {n m : Nat} : Bd n m [] := ⟨Nat.zero_le _, fun _ h => by cases h⟩
theorem Bd.app {n n' m : Nat} {l l' : List Str} (a : Bd n m l) (b : Bd n' m l') : Bd (n + n') m (l ++ l') := ⟨by rw [List.length_append]; have := a.n; have := b.n; omega, fun x hx => (List.mem_append.mp hx).elim (a.m x) (b.m x)⟩
theorem Bd.one {m : Nat} {x : Str} (h : x.length ≤ m) : Bd 1 m [x] := ⟨Nat.le_refl _, fun y hy => by rw [List.mem_singleton.mp hy]; exact h⟩
theorem Bd.cons {n m : Nat} {x : Str} {l : List Str} (h : x.length ≤ m) (a : Bd n m l) : Bd (n + 1) m (x :: l) := ⟨by rw [List.length_cons]; have := a.n; omega, fun y hy => (List.mem_cons.mp hy).elim (fun e => e ▸ h) (a.m y)⟩
theorem Bd.le {n n' m m' : Nat} {l : List Str} (a : Bd n m l) (h : n ≤ n') (h2 : m ≤ m') : Bd n' m' l := ⟨Nat.le_trans a.n h, fun x hx => Nat.le_trans (a.m x hx) h2⟩
theorem Bd.take {n m k : Nat} {l : List Str} (a : Bd n m l) : Bd n m (l.take k) := ⟨by rw [List.length_take]; have := a.n; omega, fun x hx => a.m x (List.mem_of_mem_take hx)⟩
theorem Bd.drop {n m k : Nat} {l : List Str} (a : Bd n m l) : Bd n m (l.drop k) := ⟨by rw [List.length_drop]; have := a.n; omega, fun x hx => a.m x (List.mem_of_mem_drop hx)⟩
theorem Bd.filter {n m : Nat} {l : List Str} (p : Str → Bool) (a : Bd n m l) : Bd n m (l.filter p) := ⟨Nat.le_trans (List.length_filter_le _ _) a.n, fun x hx => a.m x (List.mem_filter.mp hx).1⟩
theorem sum_le {m : Nat} : ∀ {l : List Str}, (∀ x ∈ l, x.length ≤ m) → (l.map (·.length)).sum ≤ l.length * m
  | [], _ => Nat.zero_le _
  | a :: r, h => by
    have h1 := h a List.mem_cons_self
    have h2 := sum_le (l := r) fun x hx => h x (List.mem_cons_of_mem _ hx)
    rw [List.map_cons, List.sum_cons, List.length_cons, Nat.add_mul]
    omega
theorem Bd.sum {n m : Nat} {l : List Str} (a : Bd n m l) : (l.map (·.length)).sum ≤ n * m := Nat.le_trans (sum_le a.m) (Nat.mul_le_mul_right m a.n)
theorem join_le0 (sep : Str) : ∀ ws : List Str, (Str.join sep ws).length ≤ (ws.map (·.length)).sum + ws.length * sep.length
  | [] => Nat.zero_le _
  | [x] => by
    show x.length ≤ _
    simp
  | x :: y :: r => by
    have h := join_le0 sep (y :: r)
    show (x ++ sep ++ Str.join sep (y :: r)).length ≤ _
    rw [Str.length_append, Str.length_append, List.map_cons, List.sum_cons, List.length_cons, Nat.succ_mul]
    omega
theorem join_leB {n m : Nat} {sep : Str} {ws : List Str} (a : Bd n m ws) : (Txt.join sep ws).length ≤ n * m + n * sep.length := by
  rw [TL.join_eq]
  have h1 := join_le0 sep ws
  have h2 := a.sum
  have h3 : ws.length * sep.length ≤ n * sep.length := Nat.mul_le_mul_right _ a.n
  omega
theorem NmOk.bd {l : List Str} {many : Nat} (h : NmOk l many) : Bd many 12 l := ⟨Nat.le_of_eq h.len, fun x hx => name_len (h.nm x hx)⟩
theorem str_int_len {k n : Nat} (hk : 0 < k) (h : n < 10 ^ k) : (Str.ofString (toString ((n : Nat) : Int))).length ≤ k := by
  rw [TL.len_tl, TL.tl_num]
  exact TL.numL_len hk h
/-- both ways of a choice, for the same end -/
theorem x_if2 {b : Bool} {ta tb : TE} {σ σ' : L2.St} {H H1 : Hp} {Qc : VK} (P : V → Hp → Prop) (h : ∀ Q' : VK, (∀ v H', P v H' → Q' v H') → if b = true then ta σ H Q' else tb σ' H1 Q') (k : ∀ v H', P v H' → Qc v H') : if b = true then ta σ H Qc else tb σ' H1 Qc := h Qc k
theorem x_via {te : TE} {σ : L2.St} {H : Hp} {Qc : VK} (P : V → Hp → Prop) (h : ∀ Q' : VK, (∀ v H', P v H' → Q' v H') → te σ H Q') (k : ∀ v H', P v H' → Qc v H') : te σ H Qc := h Qc k
theorem x_strN {Q : VK} {H : Hp} {x : Int} {m : Nat} (k : Nat) (e : x = ((m : Nat) : Int)) (hm : m < 10 ^ k) (hk : 0 < k) (h2 : k ≤ 500) (q : (Str.ofString (toString ((m : Nat) : Int))).length ≤ k → Q (.str (Str.ofString (toString ((m : Nat) : Int)))) H) : x.natAbs.log2 < 1920 ∧ Q (.str (Str.ofString (toString x))) H := by
  subst e
  refine ⟨?_, q (str_int_len hk hm)⟩
  rw [Int.natAbs_natCast]
  by_cases z : m = 0
  · subst z; decide
  · rw [Nat.log2_lt z]
    refine Nat.lt_of_lt_of_le hm ?_
    have h3 : (10 : Nat) ^ k ≤ 10 ^ 500 := Nat.pow_le_pow_right (by decide) h2
    refine Nat.le_trans h3 ?_
    decide +kernel
theorem Kept.new {d L : Addr} {Hb H' : Hp} {o : HO} (k : Kept d Hb H') (nL : Hb L = none) : Kept d Hb (upd H' L o) := fun b u e n => by rw [upd_ne (ne_of_none e nL)]; exact k b u e n
theorem mem_at {α : Type} {l : List α} {f : α → V} {i : Nat} {x : V} (h : (l.map f)[i]? = some x) : ∃ z, z ∈ l ∧ l[i]? = some z ∧ x = f z := by
  rw [List.getElem?_map] at h
  cases e : l[i]? with
  | none => rw [e] at h; cases h
  | some z => rw [e] at h; exact ⟨z, List.mem_of_getElem? e, rfl, (Option.some.inj h).symm⟩
end MP
end
section
open PySem L2 MPX MP
local macro_rules | `(tactic| walk_at "rd1") => `(tactic| first
  | with_reducible refine x_seq ?_
  | with_reducible refine x_next ?_
  | with_reducible refine x_ret ?_
  | with_reducible refine x_retN ?_
  | with_reducible refine x_ifs ?_
  | with_reducible refine x_asg ?_
  | with_reducible refine x_drop ?_
  | with_reducible refine x_name ?_
  | ((with_reducible refine' x_var ?vv ?_); (case vv => exact rfl))
  | with_reducible refine x_c ?_
  | with_reducible refine x_op ?_
  | with_reducible refine x_un ?_
  | with_reducible refine x_test ?_
  | with_reducible refine x_tB ?_
  | with_reducible refine x_and ?_
  | with_reducible refine x_or ?_
  | with_reducible refine x_not ?_
  | with_reducible refine x_andV ?_
  | with_reducible refine x_orV ?_
  | with_reducible refine x_notV ?_
  | with_reducible refine x_if ?_
  | with_reducible refine x_nil ?_
  | with_reducible refine x_cons ?_
  | with_reducible refine x_tup ?_
  | with_reducible refine x_lst ?_
  | with_reducible refine x_cb ?_
  | with_reducible refine x_call ?_
  | with_reducible refine x_callS ?_
  | with_reducible refine x_callP ?_
  | with_reducible refine x_mk0 ?_
  | with_reducible refine x_mk1 ?_
  | with_reducible refine x_mk2 ?_
  | with_reducible refine x_make ?_
  | with_reducible refine x_sfld ?_
  | with_reducible refine x_din ?_
  | with_reducible refine x_dnin ?_
  | with_reducible refine x_fldS ?_
  | with_reducible refine x_sl3 ?_
  | ((with_reducible refine' r_rd ?vr ?vt ?vm ?vl ?vq); (case vr => (with_reducible assumption)); (case vt => assumption); (case vm => decide +kernel); (case vl => exact rfl))
  | with_reducible refine x_m0 ?_
  | with_reducible refine x_m1 ?_
  | with_reducible refine x_bm0 ?_
  | with_reducible refine x_bm ?_
  | with_reducible refine x_par ?_
  | with_reducible refine x_ilist ?_
  | with_reducible refine x_itup ?_
  | with_reducible refine x_istr ?_
  | ((with_reducible show tLc _ _ _ _ _ _ _ _); unfold tLc)
  | ((with_reducible show tFor _ _ _ _ _ _); unfold tFor)
  | ((with_reducible refine' x_eq ?vv ?_); (case vv => exact rfl))
  | ((with_reducible refine' x_ne ?vv ?_); (case vv => exact rfl))
  | with_reducible refine x_rI0 ?_
  | with_reducible refine x_dgetR ?_
  | with_reducible refine x_dputR ?_
  | with_reducible refine x_dnew ?_
  | with_reducible refine x_dget1 ?_
  | with_reducible refine x_dget2 ?_
  | with_reducible refine x_sl ?_
  | with_reducible refine x_nopart ?_
  | with_reducible refine x_part ?_
  | ((with_reducible refine' x_slL ?vv ?_); (case vv => (with_reducible assumption)))
  | with_reducible refine x_disp ?_
  | with_reducible refine x_pcons ?_
  | with_reducible refine x_pnil ?_
  | ((with_reducible refine' x_mod ?vv ?_); (case vv => omega); intro r er hr0 hr1)
  | ((with_reducible refine' x_rI ?vv ?_); (case vv => walk_at "sc"))
  | (with_reducible refine Or.inl (Exists.intro _ (And.intro rfl ?_)))
  | with_reducible refine x_T ?_
  | with_reducible refine x_F ?_
  | ((with_reducible show Exists (α := V) _); (with_reducible apply Exists.intro))
  | ((with_reducible show Exists (α := Bool) _); (with_reducible apply Exists.intro))
  | ((with_reducible show Exists (α := Nat) _); (with_reducible apply Exists.intro))
  | ((with_reducible show Exists (α := Int) _); (with_reducible apply Exists.intro))
  | ((with_reducible show Exists (α := List V) _); (with_reducible apply Exists.intro))
  | ((with_reducible show Exists (α := PySem.Str) _); (with_reducible apply Exists.intro))
  | ((with_reducible show Exists (α := Option V) _); (with_reducible apply Exists.intro))
  | ((with_reducible show Exists (α := Option Int) _); (with_reducible apply Exists.intro))
  | ((with_reducible show Exists (α := List (Key × V)) _); (with_reducible apply Exists.intro))
  | refine And.intro rfl ?_
  | ((with_reducible refine And.intro ?vv ?_); (case vv => (first | (with_reducible assumption) | (show _ ≤ sizeLine; decide) | exact len_ok rfl)))
  | (refine And.intro (Exists.intro _ rfl) ?_))
local macro_rules | `(tactic| walk_at "sc") => `(tactic| first
  | (with_reducible assumption)
  | exact divW (by omega) (by omega)
  | exact mulW (by omega) (by omega)
  | exact Or.inl ⟨by omega, by omega⟩
  | exact Or.inr ⟨by omega, by omega⟩
  | (show (_ : Int) ≠ 0; omega)
  | exact ⟨by decide, by decide, by decide⟩
  | decide)
local macro_rules | `(tactic| walk_at "rd") => `(tactic| repeat walk_at "rd1")
local macro_rules | `(tactic| walk_at "nw") => `(tactic| (intro pX nX; generalize eX : upd _ pX _ = HX; have sX := nw_same eX nX; have qX := nw_at eX; clear eX))
local macro_rules | `(tactic| walk_at "hp") => `(tactic| repeat (first
  | (with_reducible assumption)
  | (with_reducible exact Kept.refl _ _)
  | (with_reducible exact Same.rfl')
  | (with_reducible apply Same.at; with_reducible assumption)
  | (with_reducible apply PenL.up; with_reducible assumption)
  | (with_reducible apply Kept.lst; with_reducible assumption; focus (walk_at "hp"; done))
  | (with_reducible apply Kept.tup; with_reducible assumption; focus (walk_at "hp"; done))
  | focus (with_reducible apply SqL.of; walk_at "hp"; done)
  | (with_reducible apply SqL.up; with_reducible assumption)
  | (with_reducible apply SqL.kp; with_reducible assumption; focus (walk_at "hp"; done))
  | (with_reducible apply Kept.snoc; with_reducible assumption)
  | (with_reducible apply Kept.snocS; with_reducible assumption)
  | (with_reducible apply Same.snoc; with_reducible assumption)
  | assumption))
namespace MP
open PySem L2
section
variable {P : Program} {w : World} {K : PySem.W.Frag} {mg : Str → Option Value} {base : Heap}
abbrev s__law_names : Stmt := topS 47
abbrev N__law_names : List Str := ["_law_pen_here", "_law_many", "_law_letters", "_law_barred", "_law_stem", "_law_k", "_law_at", "_law_first", "_law_step", "_law_drawn", "_law_found", "_law_letter", "_law_name"]
abbrev P__law_names : List Str := ["_law_pen_here", "_law_many"]
theorem sc__law_names : FnScope N__law_names P__law_names (defScope s__law_names) := ⟨rfl, rfl, rfl, by decide +kernel, rfl, by decide +kernel, by decide +kernel⟩
/-- one of the items of a list -/
def sp_pickL (K : PySem.W.Frag) : Sp := fun vs H Q _ => ∃ (d l a : Addr) (xs : List V) (ns : List Int) (n : Nat), vs = [.ref d, .ref a] ∧ PenL H d l ns n ∧ n < 1000000000 ∧ SqL K H a xs ∧ 0 < xs.length ∧ xs.length < 1000000 ∧
  ∀ v H', v ∈ xs → Kept d H H' → PenL H' d l ns (n + 1) → Q v H'
theorem ok_pickL {f : Addr} {fd : FuncData} (F : Fun K "_law_pick" "_law_pick" s__law_pick f fd) (T : PenTxt mg) (c__law_draw : Cal P w K mg base 1 "_law_draw" sp_draw) : FnOk P w K mg base (L2.CX P w) 2 f fd P__law_pick (sp_pickL K) := by
  refine F.okX sc__law_pick (fun vs H Q E h => ?_) (fun cdv A outer s H vs Q E hr h => ?_)
  · obtain ⟨d, l, a, xs, ns, n, rfl, _⟩ := h
    rfl
  · obtain ⟨d, l, a, xs, ns, n, rfl, p, hn, hx, h0, h1, k⟩ := h
    refine ⟨_, (pss_one (ps_ret (pe_ix ix_seq (pv 1) (pe_cc c__law_draw hr (by decide) rfl (pa_cons (pv 0) (pa_cons (pe_callB call_len (by rfl) T.b_len (by decide +kernel) (pa_cons (pv 1) pa_nil)) pa_nil))) (fun _ _ => rfl)))), ?_⟩
    show tRet _ _ [some (V.ref d), some (V.ref a)] H
    dsimp only [cxOf]
    walk_at "rd"
    refine ⟨Or.inl ⟨xs, hx, rfl⟩, ?_⟩
    refine ⟨d, l, xs.length, ns, n, rfl, p, hn, by omega, by omega, fun i H' hi0 hi1 kp p' => ?_⟩
    obtain ⟨v, hv, hm⟩ := at_mod (xs := xs) hi0 hi1
    exact x_ixSeqL (kp.seqL p hx) hv (k v H' hm kp p')
structure NamTxt (mg : Str → Option Value) : Prop where
  b_len : mg "len" = none
  b_int : mg "int" = none
  b_range : mg "range" = none
def sp_names : Sp := fun vs H Q _ => ∃ (d cl : Addr) (many : Nat) (ns : List Int) (n : Nat), vs = [.ref d, .int many] ∧ PenL H d cl ns n ∧ n < 900000000 ∧ many ≤ 12 ∧
  ∀ q H' (l : List Str), NmOk l many → Kept d H H' → H q = none → PenL H' d cl ns (n + 15) → H' q = some (.lst (l.map V.str)) → Q (.ref q) H'
theorem ok_names {f : Addr} {fd : FuncData} (F : Fun K "_law_names" "_law_names" s__law_names f fd) (T : NamTxt mg) (c__law_draw : Cal P w K mg base 1 "_law_draw" sp_draw) (c__law_pick : Cal P w K mg base 2 "_law_pick" sp_pickS) (c__law_pickL : Cal P w K mg base 2 "_law_pick" (sp_pickL K)) : FnOk P w K mg base (L2.CX P w) 3 f fd P__law_names sp_names := by
  refine F.okX sc__law_names (fun vs H Q E h => ?_) (fun cdv A outer s H vs Q E hr h => ?_)
  · obtain ⟨d, cl, many, ns, n, rfl, _⟩ := h
    rfl
  · obtain ⟨d, cl, many, ns, n, rfl, p, hn, hm, k⟩ := h
    have hu := hu_of hr
    refine ⟨_, (pss_cons (ps_set (i := 2) sc__law_names.nd rfl (Or.inr rfl) pe_str)
      (pss_cons (ps_set (i := 3) sc__law_names.nd rfl (Or.inr rfl) (pe_lst (pa_cons pe_str (pa_cons pe_str (pa_cons pe_str (pa_cons pe_str (pa_cons pe_str (pa_cons pe_str (pa_cons pe_str (pa_cons pe_str (pa_cons pe_str (pa_cons pe_str (pa_cons pe_str (pa_cons pe_str pa_nil))))))))))))))
      (pss_cons (ps_set (i := 3) sc__law_names.nd rfl (Or.inr rfl) (pe_op op_cat (pv 3) (pe_lst (pa_cons pe_str (pa_cons pe_str pa_nil)))))
      (pss_cons (ps_set (i := 4) sc__law_names.nd rfl (Or.inr rfl) (pe_join pe_str (pe_lc (own := [("_law_k", 5)]) (g := gName 5) (tt := tYes) rfl sc__law_names.nd (pi_range1 rfl T.b_range (pa_cons (pe_cc c__law_draw hr (by decide) rfl (pa_cons (pv 0) (pa_cons pe_int pa_nil))) pa_nil)) (blkOk_by (own := [("_law_k", 5)]) (N := N__law_names) (sc := defScope s__law_names) (by decide +kernel)) (fun _ _ _ _ _ => (pg_name (i := 5) sc__law_names.nd rfl (Or.inl rfl))) (fun _ _ _ _ _ => pts_nil) (fun _ _ _ _ _ => (pe_cc c__law_pick hr (by decide) rfl (pa_cons (pv 0) (pa_cons (pv 2) pa_nil)))))))
      (pss_cons (ps_asg (pe_tup (pa_cons (pe_cc c__law_draw hr (by decide) rfl (pa_cons (pv 0) (pa_cons (pe_op op_add (pe_callB call_len_str (by rfl) T.b_len (by decide +kernel) (pa_cons (pv 4) pa_nil)) pe_int) pa_nil))) (pa_cons (pe_cc c__law_draw hr (by decide) rfl (pa_cons (pv 0) (pa_cons pe_int pa_nil))) (pa_cons (pe_cc c__law_pickL hr (by decide) rfl (pa_cons (pv 0) (pa_cons (pe_lst (pa_cons pe_int (pa_cons pe_int (pa_cons pe_int (pa_cons pe_int (pa_cons pe_int (pa_cons pe_int pa_nil))))))) pa_nil))) pa_nil)))) (pg_tup rfl (pgs_cons (pg_name (i := 6) sc__law_names.nd rfl (Or.inr rfl)) (pgs_cons (pg_name (i := 7) sc__law_names.nd rfl (Or.inr rfl)) (pgs_cons (pg_name (i := 8) sc__law_names.nd rfl (Or.inr rfl)) pgs_nil)))))
      (pss_cons (ps_setLc (i := 9) (own := [("_law_k", 5)]) (g := gName 5) (tt := tYes) rfl sc__law_names.nd rfl rfl (sw_true rfl rfl rfl (by decide +kernel)) (pi_range1 rfl T.b_range (pa_cons pe_int pa_nil)) (blkOk_by (own := [("_law_k", 5)]) (N := N__law_names) (sc := defScope s__law_names) (by decide +kernel)) (fun _ _ _ _ _ => (pg_name (i := 5) sc__law_names.nd rfl (Or.inl rfl))) (fun _ _ _ _ _ => pts_nil) (fun _ _ _ _ _ => (pe_ix ix_str (pv 2) (pe_op op_modN (pe_callTy call_int1 (by rfl) T.b_int (by decide +kernel) (pa_cons (pe_op op_add (pv 7) (pe_op op_mulW (pv 8) (pv 5))) pa_nil)) pe_int) (fun _ _ => rfl))))
      (pss_cons (ps_setLc (i := 10) (own := [("_law_letter", 11)]) (g := gName 11) (tt := tYes) rfl sc__law_names.nd rfl rfl (sw_true rfl rfl rfl (by decide +kernel)) (pi_list (pv 9)) (blkOk_by (own := [("_law_letter", 11)]) (N := N__law_names) (sc := defScope s__law_names) (by decide +kernel)) (fun _ _ _ _ _ => (pg_name (i := 11) sc__law_names.nd rfl (Or.inl rfl))) (fun _ _ _ _ _ => pts_nil) (fun _ _ _ _ _ => (pe_op op_add_str (pe_op op_add_str (pe_slice sl_str (pv 4) po_none (po_some (pv 6))) (pv 11)) (pe_slice sl_str (pv 4) (po_some (pv 6)) po_none))))
      (pss_one (ps_ret (pe_slice sl_list (pe_lc (own := [("_law_name", 12)]) (g := gName 12) rfl sc__law_names.nd (pi_list (pv 10)) (blkOk_by (own := [("_law_name", 12)]) (N := N__law_names) (sc := defScope s__law_names) (by decide +kernel)) (fun _ _ _ _ _ => (pg_name (i := 12) sc__law_names.nd rfl (Or.inl rfl))) (fun _ _ _ _ _ => (pts_one (pt_cmpR (op_ninK (rfl : _ = K)) (pv 12) (pv 3) rfl))) (fun _ _ _ _ _ => (pv 12))) po_none (po_some (pv 1)))))))))))), ?_⟩
    show tSeq _ _ _ [some (V.ref d), some (V.int many), none, none, none, none, none, none, none, none, none, none, none] H
    walk_at "rd"
    walk_at "nw"
    rename_i a na H1 s1 e1
    walk_at "rd"
    walk_at "nw"
    rename_i b nb H2 s2 e2
    walk_at "rd"
    refine ⟨a, b, _, _, rfl, rfl, by walk_at "hp", by walk_at "hp", by simp [sizeLine_eq], ?_⟩
    walk_at "nw"
    rename_i c nc H3 s3 e3
    replace e3 : H3 c = some (.lst (keyW.map V.str)) := e3
    walk_at "rd"
    refine x_rgV ?_
    walk_at "rd"
    refine ⟨d, cl, 12, ns, n, rfl, by walk_at "hp", by omega, by decide, by decide, fun z H4 hz0 hz1 k4 p4 => ?_⟩
    walk_at "rd"
    refine ⟨by omega, by omega, fun D nD => ?_⟩
    have p4' := p4
    refine lc_penR (n := z.toNat) (c := 1) (fun c : Nat => V.str ⟨#[c]⟩) (fun _ c => c ∈ letters26) nD p4 (by omega) (fun i H5 R R0 hi p5 k5 hR => ?_) (fun cs H5 hl hc e5 p5 k5 => ?_)
    · walk_at "rd"
      unfold tYes
      refine x_T ?_
      walk_at "rd"
      refine ⟨d, cl, _, ns, _, rfl, p5, by omega, by decide, by decide, fun c H6 hc k6 p6 => ?_⟩
      exact hR c H6 (by rw [← lettersS_tl]; exact hc) p6 k6
    replace hc : ∀ c ∈ cs, c ∈ letters26 := fun c h => let ⟨i, hi⟩ := List.getElem?_of_mem h; hc i c hi
    walk_at "rd"
    have e5' : H5 D = some (.lst ((cs.map fun c => (⟨#[c]⟩ : Str)).map V.str)) := by rw [e5, List.map_map]; rfl
    refine ⟨cs.map fun c => (⟨#[c]⟩ : Str), rfl, rfl, Or.inl (SqL.of e5'), ?_, ?_⟩
    · have h1 : ((cs.map fun c => (⟨#[c]⟩ : Str)).map (·.length)).sum = cs.length := by
        rw [List.map_map]
        clear hc hl e5 e5'
        induction cs with
        | nil => rfl
        | cons c r ih => rw [List.map_cons, List.sum_cons, ih, List.length_cons]; show 1 + r.length = _; omega
      have h2 : (("" : Str)).length = 0 := by decide +kernel
      rw [h1, h2]
      omega
    have hst : ∀ c ∈ TL.tl (Txt.join ("" : Str) (cs.map fun c => (⟨#[c]⟩ : Str))), c ∈ letters26 := by rw [join_signs]; exact hc
    have hsl : (Txt.join ("" : Str) (cs.map fun c => (⟨#[c]⟩ : Str))).length ≤ 11 := by rw [TL.len_tl, join_signs]; omega
    generalize Txt.join ("" : Str) (cs.map fun c => (⟨#[c]⟩ : Str)) = stem at hst hsl ⊢
    have big : sizeLine = 16777216 := sizeLine_eq
    clear hc hl e5 e5'
    walk_at "rd"
    refine ⟨by omega, ?_⟩
    walk_at "rd"
    refine ⟨d, cl, _, ns, _, rfl, by walk_at "hp", by omega, by omega, by omega, fun j1 H6 hj0 hj1 k6 p6 => ?_⟩
    walk_at "rd"
    refine ⟨d, cl, _, ns, _, rfl, by walk_at "hp", by omega, by omega, by omega, fun j2 H7 hf0 hf1 k7 p7 => ?_⟩
    walk_at "rd"
    walk_at "nw"
    rename_i q1 nq1 H8 s8 e8
    walk_at "rd"
    refine ⟨d, cl, q1, _, ns, _, rfl, by walk_at "hp", by omega, by walk_at "hp", by decide, by decide, fun v H9 hv k9 p9 => ?_⟩
    obtain ⟨sN, hsN, rfl⟩ : ∃ j : Nat, j ∈ stepsL ∧ V.int j = v := by
      obtain ⟨j, hj, e⟩ := List.mem_map.mp (show v ∈ stepsL.map (fun j : Nat => V.int j) from hv)
      exact ⟨j, hj, e⟩
    walk_at "rd"
    walk_at "nw"
    rename_i q2 nq2 H10 s10 e10
    refine x_gtup3g e10 ?_
    walk_at "rd"
    refine x_rngC (by decide) (by decide) fun D2 nD2 => ?_
    obtain ⟨j1, rfl⟩ : ∃ k : Nat, j1 = k := ⟨j1.toNat, by omega⟩
    obtain ⟨j2, rfl⟩ : ∃ k : Nat, j2 = k := ⟨j2.toNat, by omega⟩
    refine lc_penR (n := 26) (c := 0) (fun c : Nat => V.str ⟨#[c]⟩) (fun i c => c = drawnC j2 sN i) nD2 (by walk_at "hp") (by decide) (fun i H11 R R0 hi p11 k11 hR => ?_) (fun cs H11 hl hc e11 p11 k11 => ?_)
    · walk_at "rd"
      unfold tYes
      refine x_T ?_
      have hs11 : sN ≤ 11 := by
        simp only [stepsL, List.mem_cons, List.not_mem_nil, or_false] at hsN
        omega
      walk_at "rd"
      rename_i r er hr0 hr1
      refine ⟨lettersS, r, drawnC j2 sN i, rfl, rfl, by decide +kernel, ?_, hR _ _ rfl p11 (Kept.refl _ _)⟩
      obtain ⟨r, rfl⟩ : ∃ k : Nat, r = k := ⟨r.toNat, by omega⟩
      rw [lettersS_tl]
      have er2 : r = (j2 + sN * i) % 26 := by
        have e3 : ((0 : Int) + (i : Nat)) = (i : Int) := Int.zero_add _
        rw [e3] at er
        have e4 : ((r : Nat) : Int) = (((j2 + sN * i) % 26 : Nat) : Int) := er
        exact Int.ofNat.inj e4
      have hr2 : r < 26 := by omega
      refine atI_nat ?_
      unfold letters26 drawnC
      rw [List.getElem?_map, List.getElem?_range hr2, ← er2]
      rfl
    have e11' : H11 D2 = some (.lst (((List.range 26).map (drawnC j2 sN)).map fun c : Nat => V.str ⟨#[c]⟩)) := by
      have e : cs = (List.range 26).map (drawnC j2 sN) := by
        refine List.ext_getElem? fun i => ?_
        by_cases hi : i < 26
        · have h1 : cs[i]? = some cs[i] := List.getElem?_eq_getElem (by omega)
          rw [h1, hc _ _ h1, List.getElem?_map, List.getElem?_range hi]
          rfl
        · rw [List.getElem?_eq_none (by omega), List.getElem?_eq_none (by rw [List.length_map, List.length_range]; omega)]
      rw [← e]; exact e11
    clear hc hl e11
    walk_at "rd"
    refine ⟨⟨_, SqL.of e11'⟩, fun D3 nD3 => ?_⟩
    refine lc_penL (xs := (List.range 26).map (drawnC j2 sN)) (fx := fun c : Nat => V.str ⟨#[c]⟩) (c := 0) V.str (fun i z => ∃ c, ((List.range 26).map (drawnC j2 sN))[i]? = some c ∧ z = insC stem j1 c) nD3 p11 (SqL.of e11') (by rw [List.length_map, List.length_range]; decide) (fun i c H12 R R0 hi p12 k12 hR => ?_) (fun fs H12 hl hf e12 p12 k12 => ?_)
    · walk_at "rd"
      unfold tYes
      refine x_T ?_
      walk_at "rd"
      have l1 := cutS_length stem none (some (j1 : Int))
      have l2 := cutS_length stem (some (j1 : Int)) none
      have l3 : (⟨#[c]⟩ : Str).length = 1 := rfl
      refine ⟨stem, rfl, by omega, ?_⟩
      walk_at "rd"
      refine ⟨by omega, ?_⟩
      walk_at "rd"
      refine ⟨stem, rfl, by omega, ?_⟩
      walk_at "rd"
      refine ⟨by rw [Str.length_append]; omega, ?_⟩
      exact hR _ _ ⟨c, hi, rfl⟩ p12 (Kept.refl _ _)
    have ef : fs = foundL stem j1 j2 sN := by
      unfold foundL
      refine List.ext_getElem? fun i => ?_
      rw [List.length_map, List.length_range] at hl
      by_cases hi : i < 26
      · have h1 : fs[i]? = some fs[i] := List.getElem?_eq_getElem (by omega)
        obtain ⟨c, hc, e⟩ := hf _ _ h1
        rw [List.getElem?_map, List.getElem?_range hi] at hc
        cases hc
        rw [h1, e, List.getElem?_map, List.getElem?_range hi]
        rfl
      · rw [List.getElem?_eq_none (by omega), List.getElem?_eq_none (by rw [List.length_map, List.length_range]; omega)]
    subst ef
    walk_at "rd"
    refine ⟨⟨_, SqL.of e12⟩, fun D4 nD4 => ?_⟩
    have hbar : H12 c = some (.lst (keyW.map V.str)) := by walk_at "hp"
    refine lc_pure (K := K) (fV fun z => !decide (z ∈ keyW)) id (SqL.of e12) nD4 (by rw [List.length_map, hl, List.length_map, List.length_range]; decide) (fun x H' acc R hx hs hacc hln h1 h2 => ?_) ?_
    · obtain ⟨y, hy, rfl⟩ := List.mem_map.mp hx
      walk_at "rd"
      refine x_notInS (SqL.of (hs _ _ hbar)) ?_
      walk_at "rd"
      refine x_B (fun h => ?_) (fun h => ?_)
      · walk_at "rd"
        exact h1 h
      · exact h2 h
    rw [List.map_id, fV_filter]
    generalize hres : ((foundL stem j1 j2 sN).filter fun z => !decide (z ∈ keyW)) = res
    have p13 := p12.mono (same_upd (o := .lst (res.map V.str)) nD4)
    have k13 := k12.trans (Kept.of (same_upd (o := .lst (res.map V.str)) nD4))
    have e13 : upd H12 D4 (.lst (res.map V.str)) D4 = _ := upd_same
    show tNoPart _ (upd H12 D4 (.lst (res.map V.str))) _
    generalize upd H12 D4 (.lst (res.map V.str)) = H13 at p13 k13 e13 ⊢
    walk_at "rd"
    refine x_slL (SqL.of e13) ?_
    walk_at "nw"
    rename_i q5 nq5 H14 s14 e14
    rw [cutV_toG, ← List.map_take] at e14
    have hN := names_ok (stem := stem) (k := j1) (f := j2) (s := sN) (many := many) hsN hst hsl hm
    rw [hres] at hN
    have kAll : Kept d H H14 := by walk_at "hp"
    have kA3 : Kept d H H13 := by walk_at "hp"
    exact k q5 H14 _ hN kAll (kA3.free nq5 (p13.kept nq5)) ((p13.mono s14).le (by omega)) e14
end
end MP
end
section
namespace MP
open PySem L2
/-! ### what the laws' texts are made of -/
def freeOf (c : Nat) (z : Str) : Bool := !decide (c ∈ TL.tl z)
theorem freeOf_app (c : Nat) (a b : Str) : freeOf c (a ++ b) = (freeOf c a && freeOf c b) := by
  unfold freeOf
  rw [TL.tl_append]
  simp [List.mem_append]
theorem freeOf_no {c : Nat} {z : Str} (h : freeOf c z = true) : c ∉ TL.tl z := by
  unfold freeOf at h
  simpa using h
theorem freeOf_mk {c : Nat} {z : Str} (h : c ∉ TL.tl z) : freeOf c z = true := by
  unfold freeOf
  simpa using h
/-- a word: no space, no line feed, not empty -/
def isW (w : Str) : Bool := freeOf 32 w && freeOf 10 w && !decide (w = ("" : Str))
theorem isW32 {w : Str} (h : isW w = true) : freeOf 32 w = true := (Bool.and_eq_true_iff.mp (Bool.and_eq_true_iff.mp h).1).1
theorem isW10 {w : Str} (h : isW w = true) : freeOf 10 w = true := (Bool.and_eq_true_iff.mp (Bool.and_eq_true_iff.mp h).1).2
theorem isWne {w : Str} (h : isW w = true) : w ≠ ("" : Str) := by simpa using (Bool.and_eq_true_iff.mp h).2
theorem isW_mk {w : Str} (h1 : freeOf 32 w = true) (h2 : freeOf 10 w = true) (h3 : w.length ≠ 0) : isW w = true := by
  unfold isW
  rw [h1, h2, decide_eq_false fun e => h3 (by rw [e]; decide +kernel)]
  rfl
theorem words_of_join {ws : List Str} (hne : ws ≠ []) (h : ∀ w ∈ ws, isW w = true) : wordsOf (Txt.join (" " : Str) ws) = ws := by
  unfold wordsOf
  rw [TL.split_join (y := (" " : Str)) (s := 32) (S := []) (by decide +kernel) (by decide +kernel) hne fun p hp => freeOf_no (isW32 (h p hp))]
  exact List.filter_eq_self.mpr fun w hw => by simpa using isWne (h w hw)
theorem free_join {c : Nat} {sep : Str} (hs : freeOf c sep = true) : ∀ {ws : List Str}, (∀ w ∈ ws, freeOf c w = true) → freeOf c (Txt.join sep ws) = true := by
  intro ws h
  rw [TL.join_eq]
  induction ws with
  | nil => exact freeOf_mk (by rw [TL.tl_join]; exact fun z => by cases z)
  | cons a r ih =>
    cases r with
    | nil => exact h a List.mem_cons_self
    | cons b r =>
      show freeOf c (a ++ sep ++ Str.join sep (b :: r)) = true
      rw [freeOf_app, freeOf_app, hs, h a List.mem_cons_self, ih fun w hw => h w (List.mem_cons_of_mem _ hw)]
      rfl
theorem letter_of {z : Str} (h : isName z = true) : ∀ c ∈ TL.tl z, c ∈ letters26 := fun c hc => by
  unfold isName at h
  have h1 := (Bool.and_eq_true_iff.mp h).2
  unfold madeOf at h1
  rw [lettersS_tl] at h1
  exact of_decide_eq_true (List.all_eq_true.mp h1 c hc)
theorem letter_no {c : Nat} (h : c ∈ letters26) : 97 ≤ c ∧ c ≤ 122 := by
  obtain ⟨j, hj, rfl⟩ := List.mem_map.mp h
  have := List.mem_range.mp hj
  show 97 ≤ 97 + j ∧ 97 + j ≤ 122
  omega
theorem name_free {z : Str} {c : Nat} (h : isName z = true) (hc : c < 97) : freeOf c z = true := freeOf_mk fun hm => by
  have := letter_no (letter_of h c hm)
  omega
theorem name_ne {z : Str} (h : isName z = true) : z.length ≠ 0 := fun e => by
  have hz : z = ("" : Str) := TL.ext_tl (by rw [List.eq_nil_of_length_eq_zero (show (TL.tl z).length = 0 by rw [← TL.len_tl]; exact e)]; decide +kernel)
  rw [hz] at h
  exact absurd h (by decide +kernel)
theorem name_W {z : Str} (h : isName z = true) : isW z = true := isW_mk (name_free h (by decide)) (name_free h (by decide)) (name_ne h)
/-! prices -/
theorem numL_head : ∀ n : Nat, 0 < n → (TL.numL n)[0]? ≠ some 48 := by
  intro n
  induction n using Nat.strongRecOn with
  | _ n ih =>
    intro hn
    by_cases h : n < 10
    · rw [TL.numL_lt h]
      show some (48 + n) ≠ some 48
      intro e
      have := Option.some.inj e
      omega
    · rw [TL.numL_step (by omega), List.getElem?_append_left (by
        have := TL.numL_ne (n / 10)
        exact List.length_pos_iff.mpr this)]
      exact ih (n / 10) (by omega) (by omega)
theorem priceN_ok {n : Nat} (h0 : 0 < n) (h : n ≤ 1000000000000000000000000000000) : isPrice (Str.ofString (toString ((n : Nat) : Int))) = true := by
  have ht := TL.tl_num n
  generalize Str.ofString (toString ((n : Nat) : Int)) = z at ht
  have hl : (TL.numL n).length ≤ 31 := TL.numL_len (by decide) (by omega)
  have hne : z ≠ ("" : Str) := fun e => by
    rw [e] at ht
    have := TL.numL_ne n
    rw [← ht] at this
    exact this (by decide +kernel)
  have hmade : madeOf z digitsS = true := by
    unfold madeOf
    refine List.all_eq_true.mpr fun c hc => decide_eq_true ?_
    have h1 := TL.numL_digits n c (by rw [← ht]; exact hc)
    have e : digitsS.cps.toList = (List.range 10).map (48 + ·) := by decide +kernel
    rw [e]
    exact List.mem_map.mpr ⟨c - 48, List.mem_range.mpr (by omega), by show 48 + (c - 48) = c; omega⟩
  have hp : priceOf z = (n : Int) := by
    unfold priceOf
    have e : z = Str.ofString (toString ((n : Nat) : Int)) := TL.ext_tl (ht.trans (TL.tl_num n).symm)
    rw [e, TL.int_num (by omega)]
    rfl
  unfold isPrice
  rw [decide_eq_false hne, decide_eq_false (show ¬ 31 < z.length by rw [TL.len_tl, ht]; omega), hmade, hp, decide_eq_true (show ((n : Nat) : Int) ≤ 1000000000000000000000000000000 by omega), decide_eq_false (show ¬ z.cps.toList[0]? = some 48 from fun e => numL_head n h0 (by rw [← ht]; exact e))]
  rfl
theorem price_W {n : Nat} : isW (Str.ofString (toString ((n : Nat) : Int))) = true := by
  have ht := TL.tl_num n
  generalize Str.ofString (toString ((n : Nat) : Int)) = z at ht
  have hd : ∀ c, (c < 48 ∨ 57 < c) → freeOf c z = true := fun c hc => freeOf_mk (by rw [ht]; exact TL.numL_free hc)
  refine isW_mk (hd 32 (by decide)) (hd 10 (by decide)) fun e => ?_
  rw [TL.len_tl, ht] at e
  exact TL.numL_ne n (List.eq_nil_of_length_eq_zero e)
/-! the reader over lines -/
def Reads (L : List Str) (S : LS) : Prop := lRun isName isPrice splE wordsOf L LS.empty 1 = .inr S
theorem lRun_cons {nm pr : Str → Bool} {sp wd : Str → List Str} (row : Str) (rows : List Str) (S : LS) (l : Int) : lRun nm pr sp wd (row :: rows) S l = if wd row = [] then lRun nm pr sp wd rows S (l + 1) else if lLineOk nm pr sp S (wd row) = true then lRun nm pr sp wd rows (lLineSt S (wd row)) (l + 1) else .inl l := rfl
theorem lRun_app {nm pr : Str → Bool} {sp wd : Str → List Str} : ∀ (a b : List Str) (S : LS) (l : Int), lRun nm pr sp wd (a ++ b) S l = match lRun nm pr sp wd a S l with | .inl e => .inl e | .inr S' => lRun nm pr sp wd b S' (l + a.length)
  | [], b, S, l => by
    show lRun nm pr sp wd b S l = lRun nm pr sp wd b S (l + 0)
    rw [Int.add_zero]
  | row :: r, b, S, l => by
    have hl : ∀ k : Int, k + 1 + (r.length : Nat) = k + ((row :: r).length : Nat) := fun k => by rw [List.length_cons]; omega
    show lRun nm pr sp wd (row :: (r ++ b)) S l = _
    rw [lRun_cons, lRun_cons]
    by_cases h : wd row = []
    · rw [if_pos h, if_pos h, lRun_app r b S (l + 1), hl]
    · rw [if_neg h, if_neg h]
      by_cases h2 : lLineOk nm pr sp S (wd row) = true
      · rw [if_pos h2, if_pos h2, lRun_app r b _ (l + 1), hl]
      · rw [if_neg h2, if_neg h2]
theorem Reads.nil : Reads [] LS.empty := rfl
theorem Reads.line {L : List Str} {S : LS} {row : Str} {ws : List Str} (h : Reads L S) (hw : wordsOf row = ws) (hne : ws ≠ []) (ok : lLineOk isName isPrice splE S ws = true) : Reads (L ++ [row]) (lLineSt S ws) := by
  unfold Reads
  rw [lRun_app, show lRun isName isPrice splE wordsOf L LS.empty 1 = .inr S from h]
  show lRun isName isPrice splE wordsOf [row] S _ = _
  unfold lRun
  rw [hw, if_neg hne, if_pos ok]
  rfl
/-- lines that are read, without line feeds -/
structure Rds (L : List Str) (S : LS) : Prop where
  rd : Reads L S
  nl : ∀ z ∈ L, freeOf 10 z = true
theorem Rds.line {L : List Str} {S : LS} {row : Str} {ws : List Str} (h : Rds L S) (hf : freeOf 10 row = true) (hw : wordsOf row = ws) (hne : ws ≠ []) (ok : lLineOk isName isPrice splE S ws = true) : Rds (L ++ [row]) (lLineSt S ws) :=
  ⟨h.rd.line hw hne ok, fun z hz => (List.mem_append.mp hz).elim (h.nl z) fun q => by rw [List.mem_singleton.mp q]; exact hf⟩
def massOf (L : List Str) : Nat := (L.map fun z => z.length + 1).sum
theorem mass_app (a b : List Str) : massOf (a ++ b) = massOf a + massOf b := by
  unfold massOf
  rw [List.map_append, List.sum_append]
theorem mass_one (z : Str) : massOf [z] = z.length + 1 := by simp [massOf]
theorem join_mass : ∀ {L : List Str}, L ≠ [] → (Txt.join ("\n" : Str) L).length + 1 = massOf L := by
  intro L hne
  have l_n : (("\n" : Str)).length = 1 := by decide +kernel
  rw [TL.join_eq]
  induction L with
  | nil => exact absurd rfl hne
  | cons a r ih =>
    cases r with
    | nil => exact (mass_one a).symm
    | cons b r =>
      have := ih (by simp)
      show (a ++ ("\n" : Str) ++ Str.join ("\n" : Str) (b :: r)).length + 1 = _
      rw [Str.length_append, Str.length_append, l_n]
      have e : massOf (a :: b :: r) = a.length + 1 + massOf (b :: r) := by simp [massOf]
      rw [e, ← this]
      omega
theorem rows_join {L : List Str} (hne : L ≠ []) (h : ∀ z ∈ L, freeOf 10 z = true) : rowsOf (Txt.join ("\n" : Str) L) = L :=
  TL.split_join (y := ("\n" : Str)) (s := 10) (S := []) (by decide +kernel) (by decide +kernel) hne fun p hp => freeOf_no (h p hp)
theorem due_none {L : List Str} {S : LS} (h : Rds L S) (hne : L ≠ []) (he : lEnd S) (h1 : L.length ≤ 120) (h2 : massOf L ≤ 6001) : dueM (Txt.join ("\n" : Str) L) = none := by
  have hm := join_mass hne
  unfold dueM
  rw [if_neg (by omega), rows_join hne h.nl, if_neg (by omega)]
  unfold runM
  rw [rows_join hne h.nl, show lRun isName isPrice splE wordsOf L LS.empty 1 = .inr S from h.rd]
  exact if_pos he
end MP
end
section
namespace MP
open PySem L2
/-! ### what the laws' generator of programs holds -/
def mdK (a0 a1 a2 a3 : Addr) (room : Int) : List (Key × V) := [(Sum.inr ("modes" : Str), .ref a0), (Sum.inr ("works" : Str), .ref a1), (Sum.inr ("called" : Str), .ref a2), (Sum.inr ("lines" : Str), .ref a3), (Sum.inr ("room" : Str), .int room)]
theorem mdK_put {a0 a1 a2 a3 : Addr} {r z : Int} : putK (mdK a0 a1 a2 a3 r) (Sum.inr ("room" : Str) : Key) (.int z) = mdK a0 a1 a2 a3 z := by kernel_rfl
theorem mdK_0 {a0 a1 a2 a3 : Addr} {r : Int} : valV (mdK a0 a1 a2 a3 r) (Sum.inr ("modes" : Str) : Key) = some (.ref a0) := rfl
theorem mdK_1 {a0 a1 a2 a3 : Addr} {r : Int} : valV (mdK a0 a1 a2 a3 r) (Sum.inr ("works" : Str) : Key) = some (.ref a1) := rfl
theorem mdK_2 {a0 a1 a2 a3 : Addr} {r : Int} : valV (mdK a0 a1 a2 a3 r) (Sum.inr ("called" : Str) : Key) = some (.ref a2) := rfl
theorem mdK_3 {a0 a1 a2 a3 : Addr} {r : Int} : valV (mdK a0 a1 a2 a3 r) (Sum.inr ("lines" : Str) : Key) = some (.ref a3) := rfl
theorem mdK_4 {a0 a1 a2 a3 : Addr} {r : Int} : valV (mdK a0 a1 a2 a3 r) (Sum.inr ("room" : Str) : Key) = some (.int r) := rfl
def TupsAt (H : Hp) : List Addr → List (Str × List Str) → Prop
  | [], [] => True
  | t :: ts, x :: r => (∃ v, H t = some (.tup [.str x.1, .ref v]) ∧ H v = some (.lst (x.2.map V.str))) ∧ TupsAt H ts r
  | _, _ => False
theorem TupsAt.len {H : Hp} : ∀ {ts : List Addr} {ms : List (Str × List Str)}, TupsAt H ts ms → ts.length = ms.length
  | [], [], _ => rfl
  | t :: ts, x :: r, h => by rw [List.length_cons, List.length_cons, h.2.len]
  | [], _ :: _, h => h.elim
  | _ :: _, [], h => h.elim
theorem TupsAt.at_ {H : Hp} : ∀ {ts : List Addr} {ms : List (Str × List Str)}, TupsAt H ts ms → ∀ {i : Nat} {t : Addr}, ts[i]? = some t → ∃ x v, ms[i]? = some x ∧ H t = some (.tup [.str x.1, .ref v]) ∧ H v = some (.lst (x.2.map V.str))
  | t :: ts, x :: r, h, 0, _, e => by
    cases e
    obtain ⟨⟨v, h1, h2⟩, _⟩ := h
    exact ⟨x, v, rfl, h1, h2⟩
  | t :: ts, x :: r, h, i + 1, u, e => h.2.at_ (i := i) e
  | [], [], _, _, _, e => by cases e
theorem TupsAt.snoc {H : Hp} {t v : Addr} {x : Str × List Str} (h1 : H t = some (.tup [.str x.1, .ref v])) (h2 : H v = some (.lst (x.2.map V.str))) : ∀ {ts : List Addr} {ms : List (Str × List Str)}, TupsAt H ts ms → TupsAt H (ts ++ [t]) (ms ++ [x])
  | [], [], _ => ⟨⟨v, h1, h2⟩, trivial⟩
  | t :: ts, x :: r, h => ⟨h.1, h.2.snoc h1 h2⟩
  | [], _ :: _, h => h.elim
  | _ :: _, [], h => h.elim
theorem TupsAt.mono {H H' : Hp} (k : ∀ b xs, H b = some (.lst xs) → H' b = some (.lst xs)) (k2 : ∀ b xs, H b = some (.tup xs) → H' b = some (.tup xs)) : ∀ {ts : List Addr} {ms : List (Str × List Str)}, TupsAt H ts ms → TupsAt H' ts ms
  | [], [], _ => trivial
  | t :: ts, x :: r, h => ⟨let ⟨v, h1, h2⟩ := h.1; ⟨v, k2 _ _ h1, k _ _ h2⟩, h.2.mono k k2⟩
  | [], _ :: _, h => h.elim
  | _ :: _, [], h => h.elim
structure GP where
  d : Addr
  cl : Addr
  m : Addr
  a0 : Addr
  a1 : Addr
  a2 : Addr
  a3 : Addr
  ns : List Int
  ts : List Addr
  modes : List (Str × List Str)
  works : List Str
  called : List Str
structure MdAt (Hb : Hp) (g : GP) (nb : Nat) (H : Hp) (lines : List Str) (room : Int) (n : Nat) : Prop where
  kp : Kept g.d Hb H
  pb : PenL Hb g.d g.cl g.ns nb
  nm : Hb g.m = none
  n3 : Hb g.a3 = none
  m3 : g.m ≠ g.a3
  i0 : Hb g.a0 = some (.lst (g.ts.map V.ref))
  it : TupsAt Hb g.ts g.modes
  i1 : Hb g.a1 = some (.lst (g.works.map V.str))
  i2 : Hb g.a2 = some (.lst (g.called.map V.str))
  dc : H g.m = some (.dK (mdK g.a0 g.a1 g.a2 g.a3 room))
  li : H g.a3 = some (.lst (lines.map V.str))
  pn : PenL H g.d g.cl g.ns n
section
variable {Hb H H' : Hp} {g : GP} {nb n n' : Nat} {lines : List Str} {room z : Int}
theorem MdAt.same (A : MdAt Hb g nb H lines room n) (s : Same H H') : MdAt Hb g nb H' lines room n :=
  ⟨A.kp.trans (Kept.of s), A.pb, A.nm, A.n3, A.m3, A.i0, A.it, A.i1, A.i2, s _ _ A.dc, s _ _ A.li, A.pn.mono s⟩
theorem MdAt.md (A : MdAt Hb g nb H lines room n) : g.m ≠ g.d := (A.pb.ne A.nm).1
theorem MdAt.draw (A : MdAt Hb g nb H lines room n) (k : Kept g.d H H') (p : PenL H' g.d g.cl g.ns n') : MdAt Hb g nb H' lines room n' :=
  ⟨A.kp.trans k, A.pb, A.nm, A.n3, A.m3, A.i0, A.it, A.i1, A.i2, k _ _ A.dc A.md, k.lst A.pn A.li, p⟩
theorem MdAt.rm (A : MdAt Hb g nb H lines room n) : MdAt Hb g nb (upd H g.m (.dK (mdK g.a0 g.a1 g.a2 g.a3 z))) lines z n :=
  ⟨A.kp.new A.nm, A.pb, A.nm, A.n3, A.m3, A.i0, A.it, A.i1, A.i2, upd_same, by rw [upd_ne (Ne.symm A.m3)]; exact A.li, A.pn.off (A.pb.ne A.nm).1 (A.pb.ne A.nm).2⟩
theorem MdAt.push (A : MdAt Hb g nb H lines room n) (l : Str) : MdAt Hb g nb (upd H g.a3 (.lst ((lines ++ [l]).map V.str))) (lines ++ [l]) room n :=
  ⟨A.kp.new A.n3, A.pb, A.nm, A.n3, A.m3, A.i0, A.it, A.i1, A.i2, by rw [upd_ne A.m3]; exact A.dc, upd_same, A.pn.off (A.pb.ne A.n3).1 (A.pb.ne A.n3).2⟩
theorem MdAt.le (A : MdAt Hb g nb H lines room n) (h : n ≤ n') : MdAt Hb g nb H lines room n' := { A with pn := A.pn.le h }
theorem MdAt.fresh (A : MdAt Hb g nb H lines room n) {W : Addr} (h : H W = none) : Hb W = none ∧ W ≠ g.m ∧ W ≠ g.a3 := by
  refine ⟨A.kp.free h (A.pn.ne h).1, fun e => ?_, fun e => ?_⟩
  · rw [e, A.dc] at h; cases h
  · rw [e, A.li] at h; cases h
theorem MdAt.off (A : MdAt Hb g nb H lines room n) {W : Addr} (h : Hb W = none) (h1 : W ≠ g.m) (h2 : W ≠ g.a3) {o : HO} : MdAt Hb g nb (upd H W o) lines room n :=
  ⟨A.kp.new h, A.pb, A.nm, A.n3, A.m3, A.i0, A.it, A.i1, A.i2, by rw [upd_ne (Ne.symm h1)]; exact A.dc, by rw [upd_ne (Ne.symm h2)]; exact A.li, A.pn.off (A.pb.ne h).1 (A.pb.ne h).2⟩
theorem MdAt.g0 (A : MdAt Hb g nb H lines room n) : H g.a0 = some (.lst (g.ts.map V.ref)) := A.kp.lst A.pb A.i0
theorem MdAt.g1 (A : MdAt Hb g nb H lines room n) : H g.a1 = some (.lst (g.works.map V.str)) := A.kp.lst A.pb A.i1
theorem MdAt.g2 (A : MdAt Hb g nb H lines room n) : H g.a2 = some (.lst (g.called.map V.str)) := A.kp.lst A.pb A.i2
theorem MdAt.tup (A : MdAt Hb g nb H lines room n) {i : Nat} {t : Addr} (e : g.ts[i]? = some t) : ∃ x v, g.modes[i]? = some x ∧ H t = some (.tup [.str x.1, .ref v]) ∧ Hb v = some (.lst (x.2.map V.str)) := by
  obtain ⟨x, v, h1, h2, h3⟩ := A.it.at_ e
  exact ⟨x, v, h1, A.kp.tup A.pb h2, h3⟩
theorem MdAt.d0 (A : MdAt Hb g nb H lines room n) : DGet H g.m (.str "modes") (some (.ref g.a0)) := dget_s A.dc mdK_0
theorem MdAt.d1 (A : MdAt Hb g nb H lines room n) : DGet H g.m (.str "works") (some (.ref g.a1)) := dget_s A.dc mdK_1
theorem MdAt.d2 (A : MdAt Hb g nb H lines room n) : DGet H g.m (.str "called") (some (.ref g.a2)) := dget_s A.dc mdK_2
theorem MdAt.d3 (A : MdAt Hb g nb H lines room n) : DGet H g.m (.str "lines") (some (.ref g.a3)) := dget_s A.dc mdK_3
theorem MdAt.d4 (A : MdAt Hb g nb H lines room n) : DGet H g.m (.str "room") (some (.int room)) := dget_s A.dc mdK_4
theorem MdAt.dp (A : MdAt Hb g nb H lines room n) : DPut H g.m (.str "room") (.int z) (upd H g.m (.dK (mdK g.a0 g.a1 g.a2 g.a3 z))) := dput_s A.dc (by show 5 < 100000; decide) mdK_put
end
/-! the items of a work -/
inductive ItemsOf : List (Str × List Str) → List Str → Prop
  | nil : ItemsOf [] []
  | skip {l : List (Str × List Str)} {its : List Str} {x : Str × List Str} : ItemsOf l its → ItemsOf (l ++ [x]) its
  | take {l : List (Str × List Str)} {its : List Str} {x : Str × List Str} {v : Str} : v ∈ x.2 ∨ v = ("?" : Str) → ItemsOf l its → ItemsOf (l ++ [x]) (its ++ [(x.1 ++ ("=" : Str)) ++ v])
structure ModesOk (modes : List (Str × List Str)) : Prop where
  nd : (modes.map (·.1)).Nodup
  nm : ∀ x ∈ modes, isName x.1 = true ∧ x.2 ≠ [] ∧ x.2.length ≤ 4 ∧ ∀ v ∈ x.2, isName v = true
  len : modes.length ≤ 3
structure GpOk (g : GP) : Prop where
  mo : ModesOk g.modes
  w0 : 0 < g.works.length
  w1 : g.works.length ≤ 12
  wn : ∀ z ∈ g.works, isName z = true
  c1 : g.called.length ≤ 12
  cn : ∀ z ∈ g.called, isName z = true ∧ z ≠ ("main" : Str)
theorem quest_free {c : Nat} (h : c ≠ 63) : freeOf c ("?" : Str) = true := freeOf_mk fun hm => by
  have e : TL.tl ("?" : Str) = [63] := by decide +kernel
  rw [e] at hm
  exact h (List.mem_singleton.mp hm)
theorem val_free {vs : List Str} {v : Str} {c : Nat} (h : ∀ v ∈ vs, isName v = true) (hv : v ∈ vs ∨ v = ("?" : Str)) (hc : c < 97) (h2 : c ≠ 63) : freeOf c v = true :=
  hv.elim (fun hm => name_free (h v hm) hc) fun e => by rw [e]; exact quest_free h2
theorem val_len {vs : List Str} {v : Str} (h : ∀ v ∈ vs, isName v = true) (hv : v ∈ vs ∨ v = ("?" : Str)) : v.length ≤ 12 :=
  hv.elim (fun hm => name_len (h v hm)) fun e => by rw [e]; decide +kernel
theorem item_spl {a b : Str} (ha : freeOf 61 a = true) (hb : freeOf 61 b = true) : splE ((a ++ ("=" : Str)) ++ b) = [a, b] := by
  unfold splE
  rw [show (a ++ ("=" : Str)) ++ b = Str.join ("=" : Str) [a, b] from rfl, ← TL.join_eq, TL.split_join (y := ("=" : Str)) (s := 61) (S := []) (by decide +kernel) (by decide +kernel) (by simp)]
  intro p hp
  simp only [List.mem_cons, List.not_mem_nil, or_false] at hp
  rcases hp with rfl | rfl
  · exact freeOf_no ha
  · exact freeOf_no hb
theorem lItems_cons {sp : Str → List Str} {S : LS} (x : Str) (r seen : List Str) : lItems sp S (x :: r) seen = match sp x with
    | [a, b] => (match look S.modes a with
      | none => false
      | some vs => !decide (a ∈ seen) && (decide (b = ("?" : Str)) || decide (b ∈ vs)) && lItems sp S r (seen ++ [a]))
    | _ => false := rfl
theorem lItems_app {sp : Str → List Str} {S : LS} : ∀ (a b seen : List Str), lItems sp S a seen = true → lItems sp S (a ++ b) seen = lItems sp S b (seen ++ a.map fun x => (sp x).headD "")
  | [], b, seen, _ => by rw [List.map_nil, List.append_nil]; rfl
  | x :: r, b, seen, h => by
    rw [List.map_cons]
    show lItems sp S (x :: (r ++ b)) seen = _
    rw [lItems_cons] at h ⊢
    match e : sp x with
    | [u, v] =>
      rw [e] at h
      simp only at h ⊢
      match e2 : look S.modes u with
      | none => rw [e2] at h; cases h
      | some vs =>
        rw [e2] at h
        simp only at h ⊢
        have h1 := Bool.and_eq_true_iff.mp h
        rw [h1.1, lItems_app r b _ h1.2, List.append_assoc]
        rfl
    | [] => rw [e] at h; cases h
    | [_] => rw [e] at h; cases h
    | _ :: _ :: _ :: _ => rw [e] at h; cases h
theorem items_read {S : LS} : ∀ {l : List (Str × List Str)} {its : List Str}, ItemsOf l its → (l.map (·.1)).Nodup → (∀ x ∈ l, look S.modes x.1 = some x.2 ∧ isName x.1 = true ∧ ∀ v ∈ x.2, isName v = true) →
    lItems splE S its [] = true ∧ ∀ s ∈ its.map fun x => (splE x).headD "", s ∈ l.map (·.1) := by
  intro l its h
  induction h with
  | nil => exact fun _ _ => ⟨rfl, fun s hs => by cases hs⟩
  | skip h ih =>
    intro nd q
    rw [List.map_append] at nd
    obtain ⟨h1, h2⟩ := ih (List.nodup_append.mp nd).1 fun y hy => q y (List.mem_append_left _ hy)
    exact ⟨h1, fun s hs => by rw [List.map_append]; exact List.mem_append_left _ (h2 s hs)⟩
  | @take l its x v hv h ih =>
    intro nd q
    rw [List.map_append] at nd
    have nd2 := List.nodup_append.mp nd
    obtain ⟨h1, h2⟩ := ih nd2.1 fun y hy => q y (List.mem_append_left _ hy)
    obtain ⟨q1, q2, q3⟩ := q x (List.mem_append_right _ List.mem_cons_self)
    have hsp : splE ((x.1 ++ ("=" : Str)) ++ v) = [x.1, v] := item_spl (name_free q2 (by decide)) (val_free q3 hv (by decide) (by decide))
    refine ⟨?_, fun s hs => ?_⟩
    · rw [lItems_app _ _ _ h1, lItems_cons, hsp]
      simp only
      rw [q1]
      simp only
      have hn : x.1 ∉ [] ++ its.map fun x => (splE x).headD "" := fun hm => nd2.2.2 x.1 (h2 _ (by simpa using hm)) x.1 (by simp) rfl
      rw [decide_eq_false hn]
      rcases hv with hv | hv
      · rw [decide_eq_true hv]; simp [lItems]
      · rw [decide_eq_true hv]; simp [lItems]
    · rw [List.map_append] at hs ⊢
      rcases List.mem_append.mp hs with hs | hs
      · exact List.mem_append_left _ (h2 s hs)
      · rw [List.map_cons, hsp] at hs
        exact List.mem_append_right _ hs
theorem look_ofmem {α : Type} : ∀ {l : List (Str × α)}, (l.map (·.1)).Nodup → ∀ x ∈ l, look l x.1 = some x.2
  | [], _, x, h => by cases h
  | y :: r, nd, x, h => by
    rw [List.map_cons, List.nodup_cons] at nd
    rcases List.mem_cons.mp h with rfl | h
    · exact if_pos rfl
    · have hne : y.1 ≠ x.1 := fun e => nd.1 (by rw [e]; exact List.mem_map.mpr ⟨x, h, rfl⟩)
      exact (if_neg hne).trans (look_ofmem nd.2 x h)
theorem items_fit : ∀ {l : List (Str × List Str)} {its : List Str}, ItemsOf l its → (∀ x ∈ l, isName x.1 = true ∧ ∀ v ∈ x.2, isName v = true) → its.length ≤ l.length ∧ ∀ z ∈ its, isW z = true ∧ z.length ≤ 25 := by
  intro l its h
  induction h with
  | nil => exact fun _ => ⟨Nat.le_refl _, fun z hz => by cases hz⟩
  | skip h ih =>
    intro q
    obtain ⟨h1, h2⟩ := ih fun y hy => q y (List.mem_append_left _ hy)
    exact ⟨by rw [List.length_append]; omega, h2⟩
  | @take l its x v hv h ih =>
    intro q
    obtain ⟨h1, h2⟩ := ih fun y hy => q y (List.mem_append_left _ hy)
    obtain ⟨q2, q3⟩ := q x (List.mem_append_right _ List.mem_cons_self)
    have l_e : (("=" : Str)).length = 1 := by decide +kernel
    refine ⟨by rw [List.length_append, List.length_append, List.length_singleton, List.length_singleton]; omega, fun z hz => ?_⟩
    rcases List.mem_append.mp hz with hz | hz
    · exact h2 z hz
    · rw [List.mem_singleton.mp hz]
      have hl := name_len q2
      have hv2 := val_len q3 hv
      refine ⟨isW_mk ?_ ?_ ?_, ?_⟩
      · rw [freeOf_app, freeOf_app, name_free q2 (by decide), val_free q3 hv (by decide) (by decide)]; decide +kernel
      · rw [freeOf_app, freeOf_app, name_free q2 (by decide), val_free q3 hv (by decide) (by decide)]; decide +kernel
      · rw [Str.length_append, Str.length_append]; omega
      · rw [Str.length_append, Str.length_append]; omega
/-- a do line of the law -/
structure DoOk (modes : List (Str × List Str)) (z : Str) : Prop where
  nl : freeOf 10 z = true
  len : z.length ≤ 94
  ex : ∃ n its, wordsOf z = ("do" : Str) :: n :: its ∧ isName n = true ∧ its.length ≤ 3 ∧ ∀ S : LS, S.modes = modes → lItems splE S its [] = true
theorem do_made {modes : List (Str × List Str)} {n : Str} {its : List Str} (mo : ModesOk modes) (hn : isName n = true) (h : ItemsOf modes its) : DoOk modes (Txt.join (" " : Str) (("do" : Str) :: n :: its)) ∧ Bd 5 25 (("do" : Str) :: n :: its) := by
  obtain ⟨f1, f2⟩ := items_fit h fun x hx => ⟨(mo.nm x hx).1, (mo.nm x hx).2.2.2⟩
  have hm := mo.len
  have hW : ∀ w ∈ ("do" : Str) :: n :: its, isW w = true := fun w hw => by
    rcases List.mem_cons.mp hw with rfl | hw
    · decide +kernel
    · rcases List.mem_cons.mp hw with rfl | hw
      · exact name_W hn
      · exact (f2 w hw).1
  have l_d : (("do" : Str)).length = 2 := by decide +kernel
  have l_b : ((" " : Str)).length = 1 := by decide +kernel
  have hnl := name_len hn
  have bi : Bd 3 25 its := ⟨by omega, fun x hx => (f2 x hx).2⟩
  refine ⟨⟨free_join (by decide +kernel) fun w hw => isW10 (hW w hw), ?_, n, its, words_of_join (by simp) hW, hn, by omega, fun S hS => ?_⟩, Bd.cons (by omega) (Bd.cons (by omega) bi)⟩
  · rw [TL.join_eq]
    have h1 := join_le0 (" " : Str) (("do" : Str) :: n :: its)
    have h2 := bi.sum
    have h3 := bi.n
    rw [List.map_cons, List.map_cons, List.sum_cons, List.sum_cons, List.length_cons, List.length_cons, l_b, l_d] at h1
    have h4 : (Str.join (" " : Str) (("do" : Str) :: n :: its)).length ≤ 94 := by
      have h5 : (its.length + 1 + 1) * 1 ≤ 5 := by omega
      have h6 : (its.map (·.length)).sum ≤ 75 := by omega
      omega
    exact h4
  · exact (items_read h mo.nd fun x hx => ⟨by rw [hS]; exact look_ofmem mo.nd x hx, (mo.nm x hx).1, (mo.nm x hx).2.2.2⟩).1
end MP
end
section
open PySem L2 MPX MP
local macro_rules | `(tactic| walk_at "rd1") => `(tactic| first
  | with_reducible refine x_seq ?_
  | with_reducible refine x_next ?_
  | with_reducible refine x_ret ?_
  | with_reducible refine x_retN ?_
  | with_reducible refine x_ifs ?_
  | with_reducible refine x_asg ?_
  | with_reducible refine x_drop ?_
  | with_reducible refine x_name ?_
  | ((with_reducible refine' x_var ?vv ?_); (case vv => exact rfl))
  | with_reducible refine x_c ?_
  | with_reducible refine x_op ?_
  | with_reducible refine x_un ?_
  | with_reducible refine x_test ?_
  | with_reducible refine x_tB ?_
  | with_reducible refine x_and ?_
  | with_reducible refine x_or ?_
  | with_reducible refine x_not ?_
  | with_reducible refine x_andV ?_
  | with_reducible refine x_orV ?_
  | with_reducible refine x_notV ?_
  | with_reducible refine x_if ?_
  | with_reducible refine x_nil ?_
  | with_reducible refine x_cons ?_
  | with_reducible refine x_tup ?_
  | with_reducible refine x_lst ?_
  | with_reducible refine x_cb ?_
  | with_reducible refine x_call ?_
  | with_reducible refine x_callS ?_
  | with_reducible refine x_callP ?_
  | with_reducible refine x_mk0 ?_
  | with_reducible refine x_mk1 ?_
  | with_reducible refine x_mk2 ?_
  | with_reducible refine x_make ?_
  | with_reducible refine x_sfld ?_
  | with_reducible refine x_din ?_
  | with_reducible refine x_dnin ?_
  | with_reducible refine x_fldS ?_
  | with_reducible refine x_sl3 ?_
  | ((with_reducible refine' r_rd ?vr ?vt ?vm ?vl ?vq); (case vr => (with_reducible assumption)); (case vt => assumption); (case vm => decide +kernel); (case vl => exact rfl))
  | with_reducible refine x_m0 ?_
  | with_reducible refine x_m1 ?_
  | with_reducible refine x_bm0 ?_
  | with_reducible refine x_bm ?_
  | with_reducible refine x_par ?_
  | with_reducible refine x_ilist ?_
  | with_reducible refine x_itup ?_
  | with_reducible refine x_istr ?_
  | ((with_reducible show tLc _ _ _ _ _ _ _ _); unfold tLc)
  | ((with_reducible show tFor _ _ _ _ _ _); unfold tFor)
  | ((with_reducible refine' x_eq ?vv ?_); (case vv => exact rfl))
  | ((with_reducible refine' x_ne ?vv ?_); (case vv => exact rfl))
  | with_reducible refine x_rI0 ?_
  | with_reducible refine x_dgetR ?_
  | with_reducible refine x_dputR ?_
  | with_reducible refine x_dnew ?_
  | with_reducible refine x_dget1 ?_
  | with_reducible refine x_dget2 ?_
  | with_reducible refine x_sl ?_
  | with_reducible refine x_nopart ?_
  | with_reducible refine x_part ?_
  | ((with_reducible refine' x_slL ?vv ?_); (case vv => (with_reducible assumption)))
  | with_reducible refine x_disp ?_
  | with_reducible refine x_pcons ?_
  | with_reducible refine x_pnil ?_
  | ((with_reducible refine' x_mod ?vv ?_); (case vv => omega); intro r er hr0 hr1)
  | ((with_reducible refine' x_rI ?vv ?_); (case vv => walk_at "sc"))
  | (with_reducible refine Or.inl (Exists.intro _ (And.intro rfl ?_)))
  | with_reducible refine x_T ?_
  | with_reducible refine x_F ?_
  | ((with_reducible show Exists (α := V) _); (with_reducible apply Exists.intro))
  | ((with_reducible show Exists (α := Bool) _); (with_reducible apply Exists.intro))
  | ((with_reducible show Exists (α := Nat) _); (with_reducible apply Exists.intro))
  | ((with_reducible show Exists (α := Int) _); (with_reducible apply Exists.intro))
  | ((with_reducible show Exists (α := List V) _); (with_reducible apply Exists.intro))
  | ((with_reducible show Exists (α := PySem.Str) _); (with_reducible apply Exists.intro))
  | ((with_reducible show Exists (α := Option V) _); (with_reducible apply Exists.intro))
  | ((with_reducible show Exists (α := Option Int) _); (with_reducible apply Exists.intro))
  | ((with_reducible show Exists (α := List (Key × V)) _); (with_reducible apply Exists.intro))
  | refine And.intro rfl ?_
  | ((with_reducible refine And.intro ?vv ?_); (case vv => (first | (with_reducible assumption) | (show _ ≤ sizeLine; decide) | exact len_ok rfl)))
  | (refine And.intro (Exists.intro _ rfl) ?_))
local macro_rules | `(tactic| walk_at "sc") => `(tactic| first
  | (with_reducible assumption)
  | exact divW (by omega) (by omega)
  | exact mulW (by omega) (by omega)
  | exact Or.inl ⟨by omega, by omega⟩
  | exact Or.inr ⟨by omega, by omega⟩
  | (show (_ : Int) ≠ 0; omega)
  | exact ⟨by decide, by decide, by decide⟩
  | decide)
local macro_rules | `(tactic| walk_at "rd") => `(tactic| repeat walk_at "rd1")
local macro_rules | `(tactic| walk_at "nw") => `(tactic| (intro pX nX; generalize eX : upd _ pX _ = HX; have sX := nw_same eX nX; have qX := nw_at eX; clear eX))
local macro_rules | `(tactic| walk_at "hp") => `(tactic| repeat (first
  | (with_reducible assumption)
  | (with_reducible exact Kept.refl _ _)
  | (with_reducible exact Same.rfl')
  | (with_reducible apply Same.at; with_reducible assumption)
  | (with_reducible apply PenL.up; with_reducible assumption)
  | (with_reducible apply Kept.lst; with_reducible assumption; focus (walk_at "hp"; done))
  | (with_reducible apply Kept.tup; with_reducible assumption; focus (walk_at "hp"; done))
  | focus (with_reducible apply SqL.of; walk_at "hp"; done)
  | (with_reducible apply SqL.up; with_reducible assumption)
  | (with_reducible apply SqL.kp; with_reducible assumption; focus (walk_at "hp"; done))
  | (with_reducible apply Kept.snoc; with_reducible assumption)
  | (with_reducible apply Kept.snocS; with_reducible assumption)
  | (with_reducible apply Same.snoc; with_reducible assumption)
  | assumption))
namespace MP
open PySem L2
section
variable {P : Program} {w : World} {K : PySem.W.Frag} {mg : Str → Option Value} {base : Heap}
abbrev s__law_work : Stmt := topS 48
abbrev N__law_work : List Str := ["_law_pen_here", "_law_made", "_law_words", "_law_mode", "_law_values", "_law_sort"]
abbrev P__law_work : List Str := ["_law_pen_here", "_law_made"]
theorem sc__law_work : FnScope N__law_work P__law_work (defScope s__law_work) := ⟨rfl, rfl, rfl, by decide +kernel, rfl, by decide +kernel, by decide +kernel⟩
/-- a work of the law -/
def sp_work : Sp := fun vs H Q _ => ∃ (Hb : Hp) (g : GP) (nb : Nat) (lines : List Str) (room : Int) (n : Nat), vs = [.ref g.d, .ref g.m] ∧ MdAt Hb g nb H lines room n ∧ GpOk g ∧ n < 900000000 ∧ ∀ z H', DoOk g.modes z → MdAt Hb g nb H' lines room (n + 20) → Q (.str z) H'
theorem ok_work {f : Addr} {fd : FuncData} (F : Fun K "_law_work" "_law_work" s__law_work f fd) (c__law_draw : Cal P w K mg base 1 "_law_draw" sp_draw) (c__law_pickL : Cal P w K mg base 2 "_law_pick" (sp_pickL K)) : FnOk P w K mg base CX0 3 f fd P__law_work sp_work := by
  refine F.ok sc__law_work (fun vs H Q E h => ?_) (fun cdv A outer s H vs Q E hr h => ?_)
  · obtain ⟨Hb, g, nb, lines, room, n, rfl, _⟩ := h
    rfl
  · obtain ⟨Hb, g, nb, lines, room, n, rfl, M, G, hn, k⟩ := h
    have hu := hu_of hr
    have big : sizeLine = 16777216 := sizeLine_eq
    refine ⟨_, (pss_cons (ps_set (i := 2) sc__law_work.nd rfl (Or.inl rfl) (pe_lst (pa_cons pe_str (pa_cons (pe_cc c__law_pickL hr (by decide) rfl (pa_cons (pv 0) (pa_cons (pe_dget hu (pv 1) pe_str (fun _ _ => rfl)) pa_nil))) pa_nil))))
      (pss_cons (ps_for PassesOwn.never rfl (pi_list (pe_dget hu (pv 1) pe_str (fun _ _ => rfl))) (pg_tup rfl (pgs_cons (pg_name (i := 3) sc__law_work.nd rfl (Or.inl rfl)) (pgs_cons (pg_name (i := 4) sc__law_work.nd rfl (Or.inl rfl)) pgs_nil)))
      (pss_cons (ps_set (i := 5) sc__law_work.nd rfl (Or.inl rfl) (pe_cc c__law_draw hr (by decide) rfl (pa_cons (pv 0) (pa_cons pe_int pa_nil))))
      (pss_one (ps_if (pt_cmpR op_lt (pv 5) pe_int (nomark _)) (pss_one (ps_expr (pe_bm PySem.F.plainAttrs_list PySem.F.slot_list_append PySem.F.type_list_append mt_append (pv 2) (pa_cons (pe_op op_add_str (pe_op op_add_str (pv 3) pe_str) (pe_cc c__law_pickL hr (by decide) rfl (pa_cons (pv 0) (pa_cons (pv 4) pa_nil)))) pa_nil)))) (pss_one (ps_if (PW.pt (pw_and (pt_cmpR op_eq (pv 5) pe_int (nomark _)) (pw_and1 (pt_cmpR op_eq (pe_cc c__law_draw hr (by decide) rfl (pa_cons (pv 0) (pa_cons pe_int pa_nil))) pe_int (nomark _))))) (pss_one (ps_expr (pe_bm PySem.F.plainAttrs_list PySem.F.slot_list_append PySem.F.type_list_append mt_append (pv 2) (pa_cons (pe_op op_add_str (pv 3) pe_str) pa_nil)))) pss_nil))))))
      (pss_one (ps_ret (pe_join pe_str (pv 2)))))), ?_⟩
    show tSeq _ _ _ [some (V.ref g.d), some (V.ref g.m), none, none, none, none] H
    walk_at "rd"
    refine ⟨g.m, _, rfl, M.d1, ?_⟩
    walk_at "rd"
    refine ⟨g.d, g.cl, g.a1, _, g.ns, n, rfl, M.pn, by omega, SqL.of M.g1, by rw [List.length_map]; exact G.w0, by rw [List.length_map]; have := G.w1; omega, fun v H1 hv k1 p1 => ?_⟩
    obtain ⟨wn, hwn, rfl⟩ := List.mem_map.mp hv
    have nwn := G.wn wn hwn
    have M1 := M.draw k1 p1
    clear p1 k1
    walk_at "rd"
    walk_at "nw"
    rename_i W nW H2 s2 e2
    have e2' : H2 W = some (.lst ((("do" : Str) :: wn :: []).map V.str)) := e2
    obtain ⟨fW, fWm, fW3⟩ := M1.fresh nW
    have M2 := M1.same s2
    clear M1 s2 e2 nW
    walk_at "rd"
    refine ⟨g.m, _, rfl, M2.d0, ?_⟩
    refine ⟨g.a0, rfl, ⟨_, SqL.of M2.g0⟩, for_list (xs := g.ts.map V.ref) (fun i σ H' => Hold (∃ (its : List Str) (x3 x4 x5 : Option V), σ = [some (V.ref g.d), some (V.ref g.m), some (V.ref W), x3, x4, x5] ∧ H' W = some (.lst ((("do" : Str) :: wn :: its).map V.str)) ∧ ItemsOf (g.modes.take i) its ∧ MdAt Hb g nb H' lines room (n + 1 + 3 * i)))
      ⟨[], none, none, none, rfl, e2', ItemsOf.nil, M2⟩ (fun i σ H' _ ⟨_, _, _, _, _, _, _, A⟩ => SqL.of A.g0) ?_ ?_⟩
    · rintro i x σ H3 hi ⟨its, x3, x4, x5, rfl, e3, hit, M3⟩
      obtain ⟨tp, _, htp, rfl⟩ := mem_at hi
      have hil := (List.getElem?_eq_some_iff.mp htp).1
      rw [M3.it.len] at hil
      have hml := G.mo.len
      obtain ⟨md, va, hmd, etp, eva⟩ := M3.tup htp
      obtain ⟨n1, n2, n3, n4⟩ := G.mo.nm md (List.mem_of_getElem? hmd)
      have lmd := name_len n1
      have htk : g.modes.take (i + 1) = g.modes.take i ++ [md] := by rw [List.take_add_one, hmd]; rfl
      obtain ⟨f1, f2⟩ := items_fit hit fun x hx => ⟨(G.mo.nm x (List.mem_of_mem_take hx)).1, (G.mo.nm x (List.mem_of_mem_take hx)).2.2.2⟩
      rw [List.length_take] at f1
      have l_e : (("=" : Str)).length = 1 := by decide +kernel
      have l_q : (("=?" : Str)).length = 2 := by decide +kernel
      refine x_gtup2 etp ?_
      walk_at "rd"
      refine ⟨g.d, g.cl, 5, g.ns, _, rfl, M3.pn, by omega, by omega, by omega, fun z H4 z0 z1 k4 p4 => ?_⟩
      have e4 : H4 W = _ := k4.lst M3.pn e3
      have M4 := M3.draw k4 p4
      clear k4 p4 M3 e3 hi
      walk_at "rd"
      refine x_D (fun _ => ?_) (fun _ => ?_)
      · walk_at "rd"
        refine ⟨x_tyL e4, ?_⟩
        walk_at "rd"
        refine ⟨by omega, ?_⟩
        walk_at "rd"
        refine ⟨g.d, g.cl, va, _, g.ns, _, rfl, M4.pn, by omega, SqL.of (M4.kp.lst M4.pb eva), by rw [List.length_map]; exact List.length_pos_iff.mpr n2, by rw [List.length_map]; omega, fun v H5 hv k5 p5 => ?_⟩
        obtain ⟨vl, hvl, rfl⟩ := List.mem_map.mp hv
        have lvl := name_len (n4 vl hvl)
        have e5 : H5 W = _ := k5.lst M4.pn e4
        have M5 := M4.draw k5 p5
        refine ⟨_, _, rfl, rfl, by rw [Str.length_append]; omega, ?_⟩
        walk_at "rd"
        refine x_appS (K := K) e5 (by simp only [List.length_cons]; omega) ?_
        exact ⟨its ++ [(md.1 ++ ("=" : Str)) ++ vl], _, _, _, rfl, upd_same, by rw [htk]; exact .take (.inl hvl) hit, (M5.off fW fWm fW3).le (by omega)⟩
      · walk_at "rd"
        refine x_D (fun _ => ?_) (fun _ => ?_)
        · walk_at "rd"
          refine ⟨g.d, g.cl, 3, g.ns, _, rfl, M4.pn, by omega, by omega, by omega, fun y H5 y0 y1 k5 p5 => ?_⟩
          have e5 : H5 W = _ := k5.lst M4.pn e4
          have M5 := M4.draw k5 p5
          walk_at "rd"
          refine x_D (fun _ => ?_) (fun _ => ?_)
          · walk_at "rd"
            refine ⟨x_tyL e5, ?_⟩
            walk_at "rd"
            refine ⟨by omega, ?_⟩
            walk_at "rd"
            refine x_appS (K := K) e5 (by simp only [List.length_cons]; omega) ?_
            have eq1 : md.1 ++ ("=?" : Str) = (md.1 ++ ("=" : Str)) ++ ("?" : Str) := by
              refine TL.ext_tl ?_
              rw [TL.tl_append, TL.tl_append, TL.tl_append, List.append_assoc]
              congr 1
            exact ⟨its ++ [md.1 ++ ("=?" : Str)], _, _, _, rfl, upd_same, by rw [htk, eq1]; exact .take (.inr rfl) hit, (M5.off fW fWm fW3).le (by omega)⟩
          · walk_at "rd"
            exact ⟨its, _, _, _, rfl, e5, by rw [htk]; exact .skip hit, M5.le (by omega)⟩
        · exact ⟨its, _, _, _, rfl, e4, by rw [htk]; exact .skip hit, M4.le (by omega)⟩
    · rintro σ H3 ⟨its, x3, x4, x5, rfl, e3, hit, M3⟩
      rw [List.length_map, M3.it.len, List.take_of_length_le (Nat.le_refl _)] at hit
      obtain ⟨D, b5⟩ := do_made G.mo nwn hit
      have l_b : ((" " : Str)).length = 1 := by decide +kernel
      have h1 := b5.sum
      have h2 := b5.n
      have hml := G.mo.len
      walk_at "rd"
      refine ⟨_, rfl, rfl, Or.inl (SqL.of e3), by rw [l_b]; omega, ?_⟩
      refine k _ _ D (M3.le ?_)
      rw [List.length_map, M3.it.len]
      omega
end
end MP
end
section
namespace MP
open PySem L2
/-! ### the lines of a drawn program are read -/
section
variable {L : List Str} {S : LS} {k z c q m v : Str} {modes : List (Str × List Str)}
theorem lInsSt_cons (k : Str) (r : List Str) : lInsSt S (k :: r) = if k = ("do" : Str) then S else if k = ("call" : Str) then { S with called := S.called ++ [((k :: r).getLast?).getD ""] } else
    if k ∈ (["either", "loop", "ever"] : List Str) then { S with stack := S.stack ++ [k] } else if k = ("end" : Str) then { S with stack := S.stack.dropLast } else S := rfl
theorem lLineOk_cons (k : Str) (r : List Str) : lLineOk isName isPrice splE S (k :: r) = if k = ("mode" : Str) then lModeOk isName isPrice S (k :: r) else if k = ("start" : Str) then lStartOk S (k :: r) else if k = ("proc" : Str) then lProcOk isName S (k :: r) else lInsOk isName splE S (k :: r) := rfl
theorem lLineSt_cons (k : Str) (r : List Str) : lLineSt S (k :: r) = if k = ("mode" : Str) then lModeSt S (k :: r) else if k = ("start" : Str) then lStartSt S (k :: r) else if k = ("proc" : Str) then lProcSt S (k :: r) else lInsSt S (k :: r) := rfl
theorem ins_line {k : Str} {r : List Str} (h1 : k ≠ ("mode" : Str)) (h2 : k ≠ ("start" : Str)) (h3 : k ≠ ("proc" : Str)) : lLineOk isName isPrice splE S (k :: r) = lInsOk isName splE S (k :: r) ∧ lLineSt S (k :: r) = lInsSt S (k :: r) :=
  ⟨(if_neg h1).trans ((if_neg h2).trans (if_neg h3)), (if_neg h1).trans ((if_neg h2).trans (if_neg h3))⟩
theorem ne3 {k : Str} (h : k ∈ (["do", "call", "either", "loop", "ever", "end", "or", "leave", "back", "stop"] : List Str)) : k ≠ ("mode" : Str) ∧ k ≠ ("start" : Str) ∧ k ≠ ("proc" : Str) := by
  have e : (["do", "call", "either", "loop", "ever", "end", "or", "leave", "back", "stop"] : List Str).all (fun k => decide (k ≠ ("mode" : Str)) && (decide (k ≠ ("start" : Str)) && decide (k ≠ ("proc" : Str)))) = true := by decide +kernel
  have := List.all_eq_true.mp e k h
  simpa using this
theorem Rds.ins {row k : Str} {r : List Str} {S' : LS} (h : Rds L S) (hf : freeOf 10 row = true) (hw : wordsOf row = k :: r) (hk : k ∈ (["do", "call", "either", "loop", "ever", "end", "or", "leave", "back", "stop"] : List Str)) (ok : lInsOk isName splE S (k :: r) = true) (st : lInsSt S (k :: r) = S') : Rds (L ++ [row]) S' := by
  obtain ⟨h1, h2, h3⟩ := ne3 hk
  obtain ⟨e1, e2⟩ := ins_line (S := S) (r := r) h1 h2 h3
  have := h.line hf hw (by simp) (e1.trans ok)
  rw [e2, st] at this
  exact this
theorem Rds.doL (h : Rds L S) (hs : S.stack ≠ []) (hm : S.modes = modes) (d : DoOk modes z) : Rds (L ++ [z]) S := by
  obtain ⟨n, its, hw, hn, hl, hi⟩ := d.ex
  refine h.ins d.nl hw (by decide +kernel) ?_ ((lInsSt_cons _ _).trans (if_pos rfl))
  show (if S.stack = [] then false else _) = true
  rw [if_neg hs, if_pos rfl]
  show (decide (its.length ≤ 6) && isName n && lItems splE S its []) = true
  rw [decide_eq_true (by omega), hn, hi S hm]
  rfl
theorem single {k : Str} (h : k ∈ (["either", "loop", "ever", "end", "or", "leave", "back", "stop"] : List Str)) : wordsOf k = [k] ∧ freeOf 10 k = true := by
  have e : (["either", "loop", "ever", "end", "or", "leave", "back", "stop"] : List Str).all (fun k => isW k) = true := by decide +kernel
  have hw := List.all_eq_true.mp e k h
  have h1 := words_of_join (ws := [k]) (by simp) fun w hw2 => by rw [List.mem_singleton.mp hw2]; exact hw
  exact ⟨h1, isW10 hw⟩
theorem Rds.blk (h : Rds L S) (hs : S.stack ≠ []) (hk : k ∈ (["either", "loop", "ever"] : List Str)) (hl : S.stack.length + 1 ≤ 9) : Rds (L ++ [k]) { S with stack := S.stack ++ [k] } := by
  have hk2 : k ∈ (["either", "loop", "ever", "end", "or", "leave", "back", "stop"] : List Str) := by
    simp only [List.mem_cons, List.not_mem_nil, or_false] at hk ⊢
    rcases hk with h | h | h <;> simp [h]
  have hd : k ≠ ("do" : Str) ∧ k ≠ ("call" : Str) := by
    have e : (["either", "loop", "ever"] : List Str).all (fun k => decide (k ≠ ("do" : Str)) && decide (k ≠ ("call" : Str))) = true := by decide +kernel
    simpa using List.all_eq_true.mp e k hk
  obtain ⟨hw, hf⟩ := single hk2
  refine h.ins hf hw (List.mem_cons_of_mem _ (List.mem_cons_of_mem _ hk2)) ?_ ((if_neg hd.1).trans ((if_neg hd.2).trans (if_pos hk)))
  show (if S.stack = [] then false else _) = true
  rw [if_neg hs, if_neg hd.1, if_neg hd.2, if_neg (fun z => z rfl), if_pos hk]
  exact decide_eq_true hl
theorem Rds.endL (h : Rds L S) (hs : S.stack ≠ []) : Rds (L ++ [("end" : Str)]) { S with stack := S.stack.dropLast } := by
  obtain ⟨hw, hf⟩ := single (k := ("end" : Str)) (by decide +kernel)
  refine h.ins hf hw (by decide +kernel) ?_ (by rw [lInsSt_cons, if_neg (by decide +kernel), if_neg (by decide +kernel), if_neg (by decide +kernel), if_pos rfl])
  show (if S.stack = [] then false else _) = true
  rw [if_neg hs, if_neg (by decide +kernel), if_neg (by decide +kernel), if_neg (fun z => z rfl), if_neg (by decide +kernel), if_pos rfl]
theorem Rds.orL (h : Rds L S) (hs : S.stack.getLast? = some ("either" : Str)) : Rds (L ++ [("or" : Str)]) S := by
  have hne : S.stack ≠ [] := fun e => by rw [e] at hs; cases hs
  obtain ⟨hw, hf⟩ := single (k := ("or" : Str)) (by decide +kernel)
  refine h.ins hf hw (by decide +kernel) ?_ (by rw [lInsSt_cons, if_neg (by decide +kernel), if_neg (by decide +kernel), if_neg (by decide +kernel), if_neg (by decide +kernel)])
  show (if S.stack = [] then false else _) = true
  rw [if_neg hne, if_neg (by decide +kernel), if_neg (by decide +kernel), if_neg (fun z => z rfl), if_neg (by decide +kernel), if_neg (by decide +kernel), if_pos rfl]
  exact decide_eq_true hs
theorem Rds.tail (h : Rds L S) (hs : S.stack ≠ []) (hk : k ∈ (["back", "stop"] : List Str) ∨ k = ("leave" : Str) ∧ ("ever" : Str) ∈ S.stack) : Rds (L ++ [k]) S := by
  have hk2 : k ∈ (["leave", "back", "stop"] : List Str) := by
    rcases hk with hk | hk
    · exact List.mem_cons_of_mem _ hk
    · rw [hk.1]; exact List.mem_cons_self
  have hk3 : k ∈ (["either", "loop", "ever", "end", "or", "leave", "back", "stop"] : List Str) := by
    simp only [List.mem_cons, List.not_mem_nil, or_false] at hk2 ⊢
    rcases hk2 with h | h | h <;> simp [h]
  have e : (["leave", "back", "stop"] : List Str).all (fun k => decide (k ≠ ("do" : Str)) && (decide (k ≠ ("call" : Str)) && (decide (k ∉ (["either", "loop", "ever"] : List Str)) && (decide (k ≠ ("end" : Str)) && decide (k ≠ ("or" : Str)))))) = true := by decide +kernel
  have hd := List.all_eq_true.mp e k hk2
  simp only [Bool.and_eq_true, decide_eq_true_eq] at hd
  obtain ⟨d1, d2, d3, d4, d5⟩ := hd
  obtain ⟨hw, hf⟩ := single hk3
  refine h.ins hf hw (List.mem_cons_of_mem _ (List.mem_cons_of_mem _ hk3)) ?_ ((if_neg d1).trans ((if_neg d2).trans ((if_neg d3).trans (if_neg d4))))
  show (if S.stack = [] then false else _) = true
  rw [if_neg hs, if_neg d1, if_neg d2, if_neg (fun z => z rfl), if_neg d3, if_neg d4, if_neg d5]
  rcases hk with hk | ⟨hk, hm⟩
  · rw [decide_eq_true hk]; rfl
  · rw [decide_eq_true hk, decide_eq_true hm]; simp
theorem two_words {a b : Str} (e : a = k ++ (" " : Str)) (hk : isW k = true) (hb : isW b = true) : wordsOf (a ++ b) = [k, b] ∧ freeOf 10 (a ++ b) = true := by
  subst e
  have hW : ∀ w ∈ [k, b], isW w = true := fun w hw => by
    rcases List.mem_cons.mp hw with rfl | hw
    · exact hk
    · rw [List.mem_singleton.mp hw]; exact hb
  have h1 := words_of_join (ws := [k, b]) (by simp) hW
  rw [TL.join_eq] at h1
  refine ⟨h1, ?_⟩
  rw [freeOf_app, freeOf_app, isW10 hk, isW10 hb]
  decide +kernel
theorem Rds.callL (h : Rds L S) (hs : S.stack ≠ []) (hc : isName c = true) (hm : c ≠ ("main" : Str)) : Rds (L ++ [("call " : Str) ++ c]) { S with called := S.called ++ [c] } := by
  obtain ⟨hw, hf⟩ := two_words (a := ("call " : Str)) (k := ("call" : Str)) (b := c) (by decide +kernel) (by decide +kernel) (name_W hc)
  refine h.ins hf hw (by decide +kernel) ?_ (by rw [lInsSt_cons, if_neg (by decide +kernel), if_pos rfl]; rfl)
  show (if S.stack = [] then false else _) = true
  rw [if_neg hs, if_neg (by decide +kernel), if_pos rfl]
  show (isName c && !decide (c = ("main" : Str))) = true
  rw [hc, decide_eq_false hm]
  rfl
theorem Rds.procL (h : Rds L S) (hs : S.stack = []) (hq : isName q = true) (hn : q ∉ S.procs) (hl : S.procs.length + 1 ≤ 6) : Rds (L ++ [("proc " : Str) ++ q]) { S with procs := S.procs ++ [q], stack := [("proc" : Str)] } := by
  obtain ⟨hw, hf⟩ := two_words (a := ("proc " : Str)) (k := ("proc" : Str)) (b := q) (by decide +kernel) (by decide +kernel) (name_W hq)
  have ok : lLineOk isName isPrice splE S [("proc" : Str), q] = true := by
    rw [lLineOk_cons, if_neg (by decide +kernel), if_neg (by decide +kernel), if_pos rfl]
    show (S.stack.isEmpty && isName q && !decide (q ∈ S.procs) && decide (S.procs.length + 1 ≤ 6)) = true
    rw [hs, hq, decide_eq_false hn, decide_eq_true hl]
    rfl
  have st : lLineSt S [("proc" : Str), q] = { S with procs := S.procs ++ [q], stack := [("proc" : Str)] } := by
    rw [lLineSt_cons, if_neg (by decide +kernel), if_neg (by decide +kernel), if_pos rfl]
    show { S with procs := S.procs ++ [q], stack := S.stack ++ [("proc" : Str)] } = _
    rw [hs]
    rfl
  have := h.line hf hw (by simp) ok
  rw [st] at this
  exact this
theorem Rds.startL (h : Rds L S) (hp : S.procs = []) (hm : isName m = true) (hv : isName v = true) {vs : List Str} (hl : look S.modes m = some vs) (hv2 : v ∈ vs) (hn : m ∉ S.starts) : Rds (L ++ [((("start " : Str) ++ m) ++ (" " : Str)) ++ v]) { S with starts := S.starts ++ [m] } := by
  have hW : ∀ w ∈ [("start" : Str), m, v], isW w = true := fun w hw => by
    simp only [List.mem_cons, List.not_mem_nil, or_false] at hw
    rcases hw with rfl | rfl | rfl
    · decide +kernel
    · exact name_W hm
    · exact name_W hv
  have hw := words_of_join (ws := [("start" : Str), m, v]) (by simp) hW
  have e : Txt.join (" " : Str) [("start" : Str), m, v] = ((("start " : Str) ++ m) ++ (" " : Str)) ++ v := by
    rw [TL.join_eq]
    refine TL.ext_tl ?_
    have e1 : ("start " : Str) = ("start" : Str) ++ (" " : Str) := by decide +kernel
    rw [e1, show Str.join (" " : Str) [("start" : Str), m, v] = ("start" : Str) ++ (" " : Str) ++ (m ++ (" " : Str) ++ v) from rfl]
    simp only [TL.tl_append, List.append_assoc]
  rw [e] at hw
  have hf : freeOf 10 (((("start " : Str) ++ m) ++ (" " : Str)) ++ v) = true := by
    rw [freeOf_app, freeOf_app, freeOf_app, isW10 (name_W hm), isW10 (name_W hv)]
    decide +kernel
  have ok : lLineOk isName isPrice splE S [("start" : Str), m, v] = true := by
    rw [lLineOk_cons, if_neg (by decide +kernel), if_pos rfl]
    show (S.procs.isEmpty && (look S.modes m).isSome && !decide (m ∈ S.starts) && (match look S.modes m with | some vs => decide (v ∈ vs) | none => false)) = true
    rw [hp, hl, decide_eq_false hn]
    show (true && true && true && decide (v ∈ vs)) = true
    rw [decide_eq_true hv2]
    rfl
  have st : lLineSt S [("start" : Str), m, v] = { S with starts := S.starts ++ [m] } := by
    rw [lLineSt_cons, if_neg (by decide +kernel), if_pos rfl]
    rfl
  have := h.line hf hw (by simp) ok
  rw [st] at this
  exact this
end
/-- what stands in a mode line behind its name -/
def pairsL : List Str → List Str → List Str
  | v :: vs, p :: ps => v :: p :: pairsL vs ps
  | _, _ => []
theorem ev_pairs : ∀ {vs ps : List Str}, vs.length = ps.length → ev (pairsL vs ps) = vs ∧ ev (pairsL vs ps).tail = ps ∧ (pairsL vs ps).length = 2 * vs.length
  | [], [], _ => ⟨rfl, rfl, rfl⟩
  | [v], [p], _ => ⟨rfl, rfl, rfl⟩
  | v :: v2 :: vs, p :: p2 :: ps, h => by
    obtain ⟨h1, h2, h3⟩ := ev_pairs (vs := v2 :: vs) (ps := p2 :: ps) (by simpa using h)
    refine ⟨?_, ?_, ?_⟩
    · show v :: ev (pairsL (v2 :: vs) (p2 :: ps)) = _
      rw [h1]
    · show p :: ev (pairsL (v2 :: vs) (p2 :: ps)).tail = _
      rw [h2]
    · show (pairsL (v2 :: vs) (p2 :: ps)).length + 1 + 1 = _
      rw [h3]
      simp only [List.length_cons]
      omega
theorem pairs_snoc {v p : Str} : ∀ {vs ps : List Str}, vs.length = ps.length → pairsL (vs ++ [v]) (ps ++ [p]) = pairsL vs ps ++ [v, p]
  | [], [], _ => rfl
  | a :: vs, b :: ps, h => by
    show a :: b :: pairsL (vs ++ [v]) (ps ++ [p]) = _
    rw [pairs_snoc (by simpa using h)]
    rfl
theorem pairs_mem {w : Str} : ∀ {vs ps : List Str}, w ∈ pairsL vs ps → w ∈ vs ∨ w ∈ ps
  | v :: vs, p :: ps, h => by
    rcases List.mem_cons.mp h with rfl | h
    · exact .inl List.mem_cons_self
    · rcases List.mem_cons.mp h with rfl | h
      · exact .inr List.mem_cons_self
      · exact (pairs_mem h).elim (fun h => .inl (List.mem_cons_of_mem _ h)) fun h => .inr (List.mem_cons_of_mem _ h)
  | [], _, h => by cases h
  | _ :: _, [], h => by cases h
theorem Rds.modeL {L : List Str} {S : LS} {m : Str} {vs ps : List Str} (h : Rds L S) (hp : S.procs = []) (hm : isName m = true) (hn : m ∉ S.modes.map (·.1)) (h6 : S.modes.length < 6) (hlen : vs.length = ps.length) (h1 : 1 ≤ vs.length) (h2 : vs.length ≤ 6)
    (hv : ∀ v ∈ vs, isName v = true) (hnd : vs.Nodup) (hpr : ∀ p ∈ ps, isPrice p = true ∧ isW p = true) : Rds (L ++ [Txt.join (" " : Str) (("mode" : Str) :: m :: pairsL vs ps)]) { S with modes := S.modes ++ [(m, vs)] } := by
  obtain ⟨e1, e2, e3⟩ := ev_pairs hlen
  have hW : ∀ w ∈ ("mode" : Str) :: m :: pairsL vs ps, isW w = true := fun w hw => by
    rcases List.mem_cons.mp hw with rfl | hw
    · decide +kernel
    · rcases List.mem_cons.mp hw with rfl | hw
      · exact name_W hm
      · exact (pairs_mem hw).elim (fun h => name_W (hv w h)) fun h => (hpr w h).2
  have hw := words_of_join (ws := ("mode" : Str) :: m :: pairsL vs ps) (by simp) hW
  have hf : freeOf 10 (Txt.join (" " : Str) (("mode" : Str) :: m :: pairsL vs ps)) = true := free_join (by decide +kernel) fun w hw => isW10 (hW w hw)
  have ok : lLineOk isName isPrice splE S (("mode" : Str) :: m :: pairsL vs ps) = true := by
    rw [lLineOk_cons, if_pos rfl]
    show (S.procs.isEmpty && decide (2 ≤ (pairsL vs ps).length) && decide ((pairsL vs ps).length % 2 = 0) && decide ((pairsL vs ps).length ≤ 12) && isName m && !(look S.modes m).isSome && !decide (S.modes.length = 6) && (ev (pairsL vs ps)).all isName && decide (ev (pairsL vs ps)).Nodup && (ev (pairsL vs ps).tail).all isPrice) = true
    rw [hp, e1, e2, e3, decide_eq_true (by omega), decide_eq_true (by omega), decide_eq_true (by omega), hm, look_isSome, decide_eq_false hn, decide_eq_false (by omega), List.all_eq_true.mpr hv, decide_eq_true hnd, List.all_eq_true.mpr fun p hp => (hpr p hp).1]
    rfl
  have st : lLineSt S (("mode" : Str) :: m :: pairsL vs ps) = { S with modes := S.modes ++ [(m, vs)] } := by
    rw [lLineSt_cons, if_pos rfl]
    show { S with modes := S.modes ++ [(m, ev (pairsL vs ps))] } = _
    rw [e1]
  have := h.line hf hw (by simp) ok
  rw [st] at this
  exact this
end MP
end
section
namespace MP
open PySem L2
/-! ### how a drawn program grows -/
theorem inV_ints (z : Int) (l : List Int) : inV (.int z) (l.map V.int) = decide (z ∈ l) := by
  induction l with
  | nil => rfl
  | cons a r ih =>
    show (eqV (.int a) (.int z) || inV (.int z) (r.map V.int)) = _
    rw [ih]
    show ((a == z) || decide (z ∈ r)) = _
    by_cases h : a = z
    · subst h
      simp
    · have e : (a == z) = false := by simpa using h
      rw [e]
      simp [List.mem_cons, Ne.symm h]
theorem flat_ints (l : List Int) : (l.map V.int).all flatV = true := List.all_eq_true.mpr fun v hv => by
  obtain ⟨z, _, rfl⟩ := List.mem_map.mp hv
  rfl
theorem x_inI {K : PySem.W.Frag} {p : Addr} {l : List Int} {x : Int} {H : Hp} {Q : VK} (hs : SqL K H p (l.map V.int)) (h : Q (.bl (decide (x ∈ l))) H) : rIn K false (.int x) (.ref p) H Q := x_inL hs rfl (flat_ints l) (by rw [inV_ints]; exact h)
structure Grow (g : GP) (e el em : Int) (lines lines' : List Str) (S S' : LS) (room room' : Int) (n n' : Nat) : Prop where
  mo : S'.modes = S.modes
  st : S'.starts = S.starts
  pr : S'.procs = S.procs
  sk : S'.stack = S.stack
  ca : ∀ c ∈ S'.called, c ∈ S.called ∨ c ∈ g.called
  r0 : 0 ≤ room'
  r1 : room' ≤ room
  ln : lines.length ≤ lines'.length
  len : (lines'.length : Int) + 2 * room' ≤ lines.length + 2 * room + el
  mass : (massOf lines' : Int) + 110 * room' ≤ massOf lines + 110 * room + em
  pn : (n' : Int) + 30 * room' ≤ n + 30 * room + e
structure PInv (g : GP) (S : LS) (deep : Nat) (ev : Bool) (lines : List Str) (room : Int) : Prop where
  mo : S.modes = g.modes
  ne : S.stack ≠ []
  sz : S.stack.length + deep ≤ 9
  ev : ev = true → ("ever" : Str) ∈ S.stack
  r1 : room ≤ 40
  ln : (lines.length : Int) + 2 * room ≤ 5000
theorem mass_snoc (L : List Str) (z : Str) : massOf (L ++ [z]) = massOf L + (z.length + 1) := by rw [mass_app, mass_one]
def sp_piece (deep : Nat) : Sp := fun vs H Q _ => ∃ (Hb : Hp) (g : GP) (nb : Nat) (lines : List Str) (room : Int) (n : Nat) (S : LS) (ev : Bool), vs = [.ref g.d, .ref g.m, .int deep, .bl ev] ∧ MdAt Hb g nb H lines room n ∧ GpOk g ∧ Rds lines S ∧ PInv g S deep ev lines room ∧ 0 < room ∧ (n : Int) + 30 * room < 800000001 ∧
  ∀ H' lines' room' n' S', MdAt Hb g nb H' lines' room' n' → Rds lines' S' → Grow g 0 0 0 lines lines' S S' room room' n n' → Q .non H'
def sp_body (deep : Nat) : Sp := fun vs H Q _ => ∃ (Hb : Hp) (g : GP) (nb : Nat) (lines : List Str) (room : Int) (n : Nat) (S : LS) (ev : Bool), vs = [.ref g.d, .ref g.m, .int deep, .bl ev] ∧ MdAt Hb g nb H lines room n ∧ GpOk g ∧ Rds lines S ∧ PInv g S deep ev lines room ∧ 0 ≤ room ∧ (n : Int) + 30 * room < 800000000 ∧
  ∀ H' lines' room' n' S', MdAt Hb g nb H' lines' room' n' → Rds lines' S' → Grow g 1 0 0 lines lines' S S' room room' n n' → Q .non H'
/-- what a piece calls: nothing at the deepest place -/
def spB : Nat → Sp
  | 0 => fun _ _ _ _ => False
  | d + 1 => sp_body d
theorem spB_ok {P : Program} {w : World} {K : PySem.W.Frag} {mg : Str → Option Value} {base : Heap} {k : Nat} {f : Addr} {fd : FuncData} {ps : List Str} : FnOk P w K mg base (L2.CX P w) k f fd ps (spB 0) := ⟨fun _ _ _ _ h => h.elim, fun _ _ _ _ _ _ _ _ _ _ _ _ _ h => h.elim⟩
theorem Grow.refl {g : GP} {e el em : Int} {L : List Str} {S : LS} {room : Int} {n : Nat} (h : 0 ≤ room) (he : 0 ≤ e) (hl : 0 ≤ el) (hm : 0 ≤ em) : Grow g e el em L L S S room room n n := ⟨rfl, rfl, rfl, rfl, fun c h => .inl h, h, Int.le_refl _, Nat.le_refl _, by omega, by omega, by omega⟩
theorem Grow.trans {g : GP} {e e' el el' em em' : Int} {L L1 L2 : List Str} {S S1 S2 : LS} {r r1 r2 : Int} {n n1 n2 : Nat} (a : Grow g e el em L L1 S S1 r r1 n n1) (b : Grow g e' el' em' L1 L2 S1 S2 r1 r2 n1 n2) : Grow g (e + e') (el + el') (em + em') L L2 S S2 r r2 n n2 :=
  ⟨b.mo.trans a.mo, b.st.trans a.st, b.pr.trans a.pr, b.sk.trans a.sk, fun c h => (b.ca c h).elim (fun h => a.ca c h) .inr, b.r0, Int.le_trans b.r1 a.r1, Nat.le_trans a.ln b.ln, by have := a.len; have := b.len; omega, by have := a.mass; have := b.mass; omega, by have := a.pn; have := b.pn; omega⟩
theorem Grow.le {g : GP} {e e' el el' em em' : Int} {L L1 : List Str} {S S1 : LS} {r r1 : Int} {n n1 : Nat} (a : Grow g e el em L L1 S S1 r r1 n n1) (h : e ≤ e') (hl : el ≤ el') (hm : em ≤ em') : Grow g e' el' em' L L1 S S1 r r1 n n1 :=
  ⟨a.mo, a.st, a.pr, a.sk, a.ca, a.r0, a.r1, a.ln, by have := a.len; omega, by have := a.mass; omega, by have := a.pn; omega⟩
theorem PInv.grow {g : GP} {S S' : LS} {deep : Nat} {ev : Bool} {room room' : Int} {e em : Int} {L L' : List Str} {n n' : Nat} (p : PInv g S deep ev L room) (G : Grow g e 0 em L L' S S' room room' n n') : PInv g S' deep ev L' room' :=
  ⟨G.mo.trans p.mo, by rw [G.sk]; exact p.ne, by rw [G.sk]; exact p.sz, by rw [G.sk]; exact p.ev, Int.le_trans G.r1 p.r1, by have := G.len; have := p.ln; omega⟩
theorem x_or2 {b : Bool} {tb : TE} {σ : L2.St} {H : Hp} {Qc : VK} (P : V → Hp → Prop) (h : ∀ Q' : VK, (∀ v H', P v H' → Q' v H') → if b = true then Q' (.bl true) H else tb σ H Q') (k : ∀ v H', P v H' → Qc v H') : if b = true then Qc (.bl true) H else tb σ H Qc := h Qc k
theorem blkKind {so : Int} (h : so ∈ ([6, 7, 8] : List Int)) : ∃ k : Str, k ∈ (["either", "loop", "ever"] : List Str) ∧ atI [V.str "either", V.str "loop", V.str "ever"] (so - 6) = some (.str k) ∧ (so = 8 → k = ("ever" : Str)) ∧ (so = 6 → k = ("either" : Str)) ∧ k.length ≤ 6 := by
  simp only [List.mem_cons, List.not_mem_nil, or_false] at h
  rcases h with rfl | rfl | rfl
  · exact ⟨"either", by simp, rfl, fun z => by omega, fun _ => rfl, by decide +kernel⟩
  · exact ⟨"loop", by simp, rfl, fun z => by omega, fun z => by omega, by decide +kernel⟩
  · exact ⟨"ever", by simp, rfl, fun _ => rfl, fun z => by omega, by decide +kernel⟩
/-- both ways of an if, each once -/
theorem x_ifP {tt : TT} {t u : TS} {D : Ends} {σ : L2.St} {H : Hp} (P : Bool → Hp → Prop) (h : ∀ R : Bool → Hp → Prop, (∀ b H', P b H' → R b H') → tt σ H R) (ht : ∀ H', P true H' → t D σ H') (hu : ∀ H', P false H' → u D σ H') : tIfS tt t u D σ H :=
  h (fun b H1 => if b = true then t D σ H1 else u D σ H1) fun b H' p => by
    cases b with
    | true => rw [if_pos rfl]; exact ht H' p
    | false => rw [if_neg Bool.false_ne_true]; exact hu H' p
end MP
end
section
open PySem L2 MPX MP
local macro_rules | `(tactic| walk_at "rd1") => `(tactic| first
  | with_reducible refine x_seq ?_
  | with_reducible refine x_next ?_
  | with_reducible refine x_ret ?_
  | with_reducible refine x_retN ?_
  | with_reducible refine x_ifs ?_
  | with_reducible refine x_asg ?_
  | with_reducible refine x_drop ?_
  | with_reducible refine x_name ?_
  | ((with_reducible refine' x_var ?vv ?_); (case vv => exact rfl))
  | with_reducible refine x_c ?_
  | with_reducible refine x_op ?_
  | with_reducible refine x_un ?_
  | with_reducible refine x_test ?_
  | with_reducible refine x_tB ?_
  | with_reducible refine x_and ?_
  | with_reducible refine x_or ?_
  | with_reducible refine x_not ?_
  | with_reducible refine x_andV ?_
  | with_reducible refine x_orV ?_
  | with_reducible refine x_notV ?_
  | with_reducible refine x_if ?_
  | with_reducible refine x_nil ?_
  | with_reducible refine x_cons ?_
  | with_reducible refine x_tup ?_
  | with_reducible refine x_lst ?_
  | with_reducible refine x_cb ?_
  | with_reducible refine x_call ?_
  | with_reducible refine x_callS ?_
  | with_reducible refine x_callP ?_
  | with_reducible refine x_mk0 ?_
  | with_reducible refine x_mk1 ?_
  | with_reducible refine x_mk2 ?_
  | with_reducible refine x_make ?_
  | with_reducible refine x_sfld ?_
  | with_reducible refine x_din ?_
  | with_reducible refine x_dnin ?_
  | with_reducible refine x_fldS ?_
  | with_reducible refine x_sl3 ?_
  | ((with_reducible refine' r_rd ?vr ?vt ?vm ?vl ?vq); (case vr => (with_reducible assumption)); (case vt => assumption); (case vm => decide +kernel); (case vl => exact rfl))
  | with_reducible refine x_m0 ?_
  | with_reducible refine x_m1 ?_
  | with_reducible refine x_bm0 ?_
  | with_reducible refine x_bm ?_
  | with_reducible refine x_par ?_
  | with_reducible refine x_ilist ?_
  | with_reducible refine x_itup ?_
  | with_reducible refine x_istr ?_
  | ((with_reducible show tLc _ _ _ _ _ _ _ _); unfold tLc)
  | ((with_reducible show tFor _ _ _ _ _ _); unfold tFor)
  | ((with_reducible refine' x_eq ?vv ?_); (case vv => exact rfl))
  | ((with_reducible refine' x_ne ?vv ?_); (case vv => exact rfl))
  | with_reducible refine x_rI0 ?_
  | with_reducible refine x_dgetR ?_
  | with_reducible refine x_dputR ?_
  | with_reducible refine x_dnew ?_
  | with_reducible refine x_dget1 ?_
  | with_reducible refine x_dget2 ?_
  | with_reducible refine x_sl ?_
  | with_reducible refine x_nopart ?_
  | with_reducible refine x_part ?_
  | ((with_reducible refine' x_slL ?vv ?_); (case vv => (with_reducible assumption)))
  | with_reducible refine x_disp ?_
  | with_reducible refine x_pcons ?_
  | with_reducible refine x_pnil ?_
  | ((with_reducible refine' x_mod ?vv ?_); (case vv => omega); intro r er hr0 hr1)
  | ((with_reducible refine' x_rI ?vv ?_); (case vv => walk_at "sc"))
  | (with_reducible refine Or.inl (Exists.intro _ (And.intro rfl ?_)))
  | with_reducible refine x_T ?_
  | with_reducible refine x_F ?_
  | ((with_reducible show Exists (α := V) _); (with_reducible apply Exists.intro))
  | ((with_reducible show Exists (α := Bool) _); (with_reducible apply Exists.intro))
  | ((with_reducible show Exists (α := Nat) _); (with_reducible apply Exists.intro))
  | ((with_reducible show Exists (α := Int) _); (with_reducible apply Exists.intro))
  | ((with_reducible show Exists (α := List V) _); (with_reducible apply Exists.intro))
  | ((with_reducible show Exists (α := PySem.Str) _); (with_reducible apply Exists.intro))
  | ((with_reducible show Exists (α := Option V) _); (with_reducible apply Exists.intro))
  | ((with_reducible show Exists (α := Option Int) _); (with_reducible apply Exists.intro))
  | ((with_reducible show Exists (α := List (Key × V)) _); (with_reducible apply Exists.intro))
  | refine And.intro rfl ?_
  | ((with_reducible refine And.intro ?vv ?_); (case vv => (first | (with_reducible assumption) | (show _ ≤ sizeLine; decide) | exact len_ok rfl)))
  | (refine And.intro (Exists.intro _ rfl) ?_))
local macro_rules | `(tactic| walk_at "sc") => `(tactic| first
  | (with_reducible assumption)
  | exact divW (by omega) (by omega)
  | exact mulW (by omega) (by omega)
  | exact Or.inl ⟨by omega, by omega⟩
  | exact Or.inr ⟨by omega, by omega⟩
  | (show (_ : Int) ≠ 0; omega)
  | exact ⟨by decide, by decide, by decide⟩
  | decide)
local macro_rules | `(tactic| walk_at "rd") => `(tactic| repeat walk_at "rd1")
local macro_rules | `(tactic| walk_at "nw") => `(tactic| (intro pX nX; generalize eX : upd _ pX _ = HX; have sX := nw_same eX nX; have qX := nw_at eX; clear eX))
local macro_rules | `(tactic| walk_at "hp") => `(tactic| repeat (first
  | (with_reducible assumption)
  | (with_reducible exact Kept.refl _ _)
  | (with_reducible exact Same.rfl')
  | (with_reducible apply Same.at; with_reducible assumption)
  | (with_reducible apply PenL.up; with_reducible assumption)
  | (with_reducible apply Kept.lst; with_reducible assumption; focus (walk_at "hp"; done))
  | (with_reducible apply Kept.tup; with_reducible assumption; focus (walk_at "hp"; done))
  | focus (with_reducible apply SqL.of; walk_at "hp"; done)
  | (with_reducible apply SqL.up; with_reducible assumption)
  | (with_reducible apply SqL.kp; with_reducible assumption; focus (walk_at "hp"; done))
  | (with_reducible apply Kept.snoc; with_reducible assumption)
  | (with_reducible apply Kept.snocS; with_reducible assumption)
  | (with_reducible apply Same.snoc; with_reducible assumption)
  | assumption))
namespace MP
open PySem L2
section
variable {P : Program} {w : World} {K : PySem.W.Frag} {mg : Str → Option Value} {base : Heap}
abbrev s__law_piece : Stmt := topS 49
abbrev N__law_piece : List Str := ["_law_pen_here", "_law_made", "_law_deep", "_law_ever", "_law_sort", "_law_turn"]
abbrev P__law_piece : List Str := ["_law_pen_here", "_law_made", "_law_deep", "_law_ever"]
theorem sc__law_piece : FnScope N__law_piece P__law_piece (defScope s__law_piece) := ⟨rfl, rfl, rfl, by decide +kernel, rfl, by decide +kernel, by decide +kernel⟩
abbrev s__law_body : Stmt := topS 50
abbrev N__law_body : List Str := ["_law_pen_here", "_law_made", "_law_deep", "_law_ever", "_law_turn"]
abbrev P__law_body : List Str := ["_law_pen_here", "_law_made", "_law_deep", "_law_ever"]
theorem sc__law_body : FnScope N__law_body P__law_body (defScope s__law_body) := ⟨rfl, rfl, rfl, by decide +kernel, rfl, by decide +kernel, by decide +kernel⟩
structure BodTxt (mg : Str → Option Value) : Prop where
  b_range : mg "range" = none
theorem ok_body {f : Addr} {fd : FuncData} (dp : Nat) (hdp : dp ≤ 8) (F : Fun K "_law_body" "_law_body" s__law_body f fd) (T : BodTxt mg) (c__law_draw : Cal P w K mg base 1 "_law_draw" sp_draw) (c__law_piece : Cal P w K mg base (2 * dp + 5) "_law_piece" (sp_piece dp)) : FnOk P w K mg base CX0 (2 * dp + 6) f fd P__law_body (sp_body dp) := by
  refine F.ok sc__law_body (fun vs H Q E h => ?_) (fun cdv A outer s H vs Q E hr h => ?_)
  · obtain ⟨Hb, g, nb, lines, room, n, S, ev, rfl, _⟩ := h
    rfl
  · obtain ⟨Hb, g, nb, lines, room, n, S, ev, rfl, M, G, R, I, h0, hn, k⟩ := h
    have hu := hu_of hr
    refine ⟨_, (pss_one (ps_for PassesOwn.never rfl (pi_range1 rfl T.b_range (pa_cons (pe_cc c__law_draw hr (by omega) rfl (pa_cons (pv 0) (pa_cons pe_int pa_nil))) pa_nil)) (pg_name (i := 4) sc__law_body.nd rfl (Or.inl rfl))
      (pss_one (ps_if (pt_cmpR op_gt (pe_dget hu (pv 1) pe_str (fun _ _ => rfl)) pe_int (nomark _)) (pss_one (ps_expr (pe_cc c__law_piece hr (by omega) rfl (pa_cons (pv 0) (pa_cons (pv 1) (pa_cons (pv 2) (pa_cons (pv 3) pa_nil))))))) pss_nil)))), ?_⟩
    show tFor _ _ _ _ _ _
    have hr1 := I.r1
    walk_at "rd"
    refine x_rgV ?_
    walk_at "rd"
    refine ⟨g.d, g.cl, 4, g.ns, n, rfl, M.pn, by omega, by omega, by omega, fun z H1 z0 z1 k1 p1 => ?_⟩
    have M1 := M.draw k1 p1
    clear k1 p1
    walk_at "rd"
    refine ⟨by omega, by omega, ?_⟩
    have G0 : Grow g 1 0 0 lines lines S S room room n (n + 1) := ⟨rfl, rfl, rfl, rfl, fun c h => .inl h, h0, Int.le_refl _, Nat.le_refl _, by omega, by omega, by omega⟩
    refine for_range (n := z.toNat) (fun i σ H' => Hold (∃ (lines' : List Str) (room' : Int) (n' : Nat) (S' : LS) (x4 : Option V), σ = [some (V.ref g.d), some (V.ref g.m), some (V.int dp), some (V.bl ev), x4] ∧ MdAt Hb g nb H' lines' room' n' ∧ Rds lines' S' ∧ Grow g 1 0 0 lines lines' S S' room room' n n')) ⟨lines, room, n + 1, S, none, rfl, M1, R, G0⟩ ?_ ?_
    · rintro i σ H2 hi ⟨lines2, room2, n2, S2, x4, rfl, M2, R2, G2⟩
      walk_at "rd"
      refine ⟨g.m, _, rfl, M2.d4, ?_⟩
      walk_at "rd"
      refine x_D (fun h1 => ?_) (fun h1 => ?_)
      · walk_at "rd"
        have hpn := G2.pn
        have hr0 := G2.r0
        refine ⟨Hb, g, nb, lines2, room2, n2, S2, ev, rfl, M2, G, R2, I.grow G2, by omega, by omega, fun H3 lines3 room3 n3 S3 M3 R3 G3 => ?_⟩
        walk_at "rd"
        exact ⟨lines3, room3, n3, S3, _, rfl, M3, R3, G2.trans G3⟩
      · walk_at "rd"
        exact ⟨lines2, room2, n2, S2, _, rfl, M2, R2, G2⟩
    · rintro σ H2 ⟨lines2, room2, n2, S2, x4, rfl, M2, R2, G2⟩
      exact k _ _ _ _ _ M2 R2 G2
theorem ok_piece {f : Addr} {fd : FuncData} (dp : Nat) (hdp : dp ≤ 8) (F : Fun K "_law_piece" "_law_piece" s__law_piece f fd) (T : BodTxt mg) (c__law_draw : Cal P w K mg base 1 "_law_draw" sp_draw) (c__law_pickL : Cal P w K mg base 2 "_law_pick" (sp_pickL K)) (c__law_work : Cal P w K mg base 3 "_law_work" sp_work) (c__law_body : Cal P w K mg base (2 * dp + 4) "_law_body" (spB dp)) : FnOk P w K mg base CX0 (2 * dp + 5) f fd P__law_piece (sp_piece dp) := by
  refine F.ok sc__law_piece (fun vs H Q E h => ?_) (fun cdv A outer s H vs Q E hr h => ?_)
  · obtain ⟨Hb, g, nb, lines, room, n, S, ev, rfl, _⟩ := h
    rfl
  · obtain ⟨Hb, g, nb, lines, room, n, S, ev, rfl, M, G, R, I, h0, hn, k⟩ := h
    have hu := hu_of hr
    have big : sizeLine = 16777216 := sizeLine_eq
    refine ⟨_, (pss_cons (ps_set (i := 4) sc__law_piece.nd rfl (Or.inl rfl) (pe_cc c__law_draw hr (by omega) rfl (pa_cons (pv 0) (pa_cons pe_int pa_nil))))
      (pss_cons (ps_dput hu (pv 1) pe_str (pe_op op_sub (pe_dget hu (pv 1) pe_str (fun _ _ => rfl)) pe_int) rfl)
      (pss_one (ps_if (PW.pt (pw_and (pt_cmpR op_in_seq (pv 4) (pe_lst (pa_cons pe_int (pa_cons pe_int (pa_cons pe_int pa_nil)))) rfl) (pw_and (pt_cmpR op_gt (pv 2) pe_int (nomark _)) (pw_and1 (pt_cmpR op_gt (pe_dget hu (pv 1) pe_str (fun _ _ => rfl)) pe_int (nomark _)))))) (pss_cons (ps_dput hu (pv 1) pe_str (pe_op op_sub (pe_dget hu (pv 1) pe_str (fun _ _ => rfl)) pe_int) rfl)
      (pss_cons (ps_expr (pe_bm PySem.F.plainAttrs_list PySem.F.slot_list_append PySem.F.type_list_append mt_append (pe_dget hu (pv 1) pe_str (fun _ _ => rfl)) (pa_cons (pe_ix ix_list (pe_lst (pa_cons pe_str (pa_cons pe_str (pa_cons pe_str pa_nil)))) (pe_op op_sub (pv 4) pe_int) (fun _ _ => rfl)) pa_nil)))
      (pss_cons (ps_expr (pe_cc c__law_body hr (by omega) rfl (pa_cons (pv 0) (pa_cons (pv 1) (pa_cons (pe_op op_sub (pv 2) pe_int) (pa_cons (pe_or (pv 3) (pe_one (pe_cmpR op_eq (pv 4) pe_int (nomark _)))) pa_nil))))))
      (pss_cons (ps_for PassesOwn.never rfl (pi_range1 rfl T.b_range (pa_cons (pe_ifExp (pt_cmpR op_eq (pv 4) pe_int (nomark _)) (pe_cc c__law_draw hr (by omega) rfl (pa_cons (pv 0) (pa_cons pe_int pa_nil))) pe_int) pa_nil)) (pg_name (i := 5) sc__law_piece.nd rfl (Or.inl rfl))
        (pss_cons (ps_expr (pe_bm PySem.F.plainAttrs_list PySem.F.slot_list_append PySem.F.type_list_append mt_append (pe_dget hu (pv 1) pe_str (fun _ _ => rfl)) (pa_cons pe_str pa_nil)))
        (pss_one (ps_expr (pe_cc c__law_body hr (by omega) rfl (pa_cons (pv 0) (pa_cons (pv 1) (pa_cons (pe_op op_sub (pv 2) pe_int) (pa_cons (pv 3) pa_nil)))))))))
      (pss_one (ps_expr (pe_bm PySem.F.plainAttrs_list PySem.F.slot_list_append PySem.F.type_list_append mt_append (pe_dget hu (pv 1) pe_str (fun _ _ => rfl)) (pa_cons pe_str pa_nil)))))))) (pss_one (ps_if (PW.pt (pw_and (pt_cmpR op_eq (pv 4) pe_int (nomark _)) (pw_and1 (pt_cmpR (op_neE hr.units) (pe_dget hu (pv 1) pe_str (fun _ _ => rfl)) (pe_lst pa_nil) (nomark _))))) (pss_one (ps_expr (pe_bm PySem.F.plainAttrs_list PySem.F.slot_list_append PySem.F.type_list_append mt_append (pe_dget hu (pv 1) pe_str (fun _ _ => rfl)) (pa_cons (pe_op op_add_str pe_str (pe_cc c__law_pickL hr (by omega) rfl (pa_cons (pv 0) (pa_cons (pe_dget hu (pv 1) pe_str (fun _ _ => rfl)) pa_nil)))) pa_nil)))) (pss_one (ps_if (PW.pt (pw_and (pt_cmpR op_in_seq (pv 4) (pe_lst (pa_cons pe_int (pa_cons pe_int pa_nil))) rfl) (pw_and1 (pt_val (pv 3))))) (pss_one (ps_expr (pe_bm PySem.F.plainAttrs_list PySem.F.slot_list_append PySem.F.type_list_append mt_append (pe_dget hu (pv 1) pe_str (fun _ _ => rfl)) (pa_cons pe_str pa_nil)))) (pss_one (ps_if (PW.pt (pw_and (pt_cmpR op_eq (pv 4) pe_int (nomark _)) (pw_and1 (pt_cmpR op_eq (pe_cc c__law_draw hr (by omega) rfl (pa_cons (pv 0) (pa_cons pe_int pa_nil))) pe_int (nomark _))))) (pss_one (ps_expr (pe_bm PySem.F.plainAttrs_list PySem.F.slot_list_append PySem.F.type_list_append mt_append (pe_dget hu (pv 1) pe_str (fun _ _ => rfl)) (pa_cons (pe_cc c__law_pickL hr (by omega) rfl (pa_cons (pv 0) (pa_cons (pe_lst (pa_cons pe_str (pa_cons pe_str pa_nil))) pa_nil))) pa_nil)))) (pss_one (ps_expr (pe_bm PySem.F.plainAttrs_list PySem.F.slot_list_append PySem.F.type_list_append mt_append (pe_dget hu (pv 1) pe_str (fun _ _ => rfl)) (pa_cons (pe_cc c__law_work hr (by omega) rfl (pa_cons (pv 0) (pa_cons (pv 1) pa_nil))) pa_nil)))))))))))))), ?_⟩
    show tSeq _ _ _ [some (V.ref g.d), some (V.ref g.m), some (V.int dp), some (V.bl ev), none, none] H
    have hr1 := I.r1
    walk_at "rd"
    refine ⟨g.d, g.cl, 13, g.ns, n, rfl, M.pn, by omega, by omega, by omega, fun so H1 z0 z1 k1 p1 => ?_⟩
    have M1 := M.draw k1 p1
    clear k1 p1
    walk_at "rd"
    refine ⟨g.m, _, rfl, M1.d4, ?_⟩
    walk_at "rd"
    refine ⟨g.m, _, rfl, M1.dp, ?_⟩
    replace M1 := M1.rm (z := room - 1)
    generalize upd H1 g.m (.dK (mdK g.a0 g.a1 g.a2 g.a3 (room - 1))) = H2 at M1 ⊢
    have Gr1 : Grow g 0 0 0 lines lines S S room (room - 1) n (n + 1) := ⟨rfl, rfl, rfl, rfl, fun c h => .inl h, by omega, by omega, Nat.le_refl _, by omega, by omega, by omega⟩
    -- one line more, and the end
    have one : ∀ (H' : Hp) (n' : Nat) (z : Str) (S' : LS), MdAt Hb g nb H' lines (room - 1) n' → Rds (lines ++ [z]) S' → S'.modes = S.modes → S'.starts = S.starts → S'.procs = S.procs → S'.stack = S.stack → (∀ c ∈ S'.called, c ∈ S.called ∨ c ∈ g.called) → z.length ≤ 94 → n' ≤ n + 25 →
        rAppend (V.ref g.a3) [.str z] H' (fun _ H'' => Q .non H'') := by
      intro H' n' z S' M' R' q1 q2 q3 q4 q5 hz hn'
      have hln := I.ln
      refine x_appS (K := K) M'.li (by omega) (k _ _ _ _ _ (M'.push z) R' ⟨q1, q2, q3, q4, q5, by omega, by omega, by rw [List.length_append]; omega, by rw [List.length_append, List.length_singleton]; omega, by rw [mass_snoc]; omega, by omega⟩)
    with_reducible refine x_ifP (fun b H' => MdAt Hb g nb H' lines (room - 1) (n + 1) ∧ (b = true → so ∈ ([6, 7, 8] : List Int) ∧ 0 < dp ∧ 4 < room - 1)) (fun Rt hR => ?_) (fun H3 hp => ?_) (fun H3 hp => ?_)
    · walk_at "rd"
      walk_at "nw"
      rename_i q nq H3 s3 e3
      refine x_inI (l := [6, 7, 8]) (SqL.of e3) ?_
      have M3 := M1.same s3
      walk_at "rd"
      refine x_D (fun h1 => ?_) (fun _ => ?_)
      · walk_at "rd"
        refine x_D (fun h2 => ?_) (fun _ => ?_)
        · walk_at "rd"
          refine ⟨g.m, _, rfl, M3.d4, ?_⟩
          walk_at "rd"
          exact hR _ _ ⟨M3, fun e => ⟨h1, by omega, of_decide_eq_true e⟩⟩
        · exact hR _ _ ⟨M3, fun e => by cases e⟩
      · exact hR _ _ ⟨M3, fun e => by cases e⟩
    · obtain ⟨M3, hc⟩ := hp
      obtain ⟨c1, c2, c3⟩ := hc rfl
      clear hc M1
      obtain ⟨d1, rfl⟩ : ∃ d1, dp = d1 + 1 := ⟨dp - 1, by omega⟩
      walk_at "rd"
      refine ⟨g.m, _, rfl, M3.d4, ?_⟩
      walk_at "rd"
      refine ⟨g.m, _, rfl, M3.dp, ?_⟩
      replace M3 := M3.rm (z := room - 1 - 1)
      generalize upd H3 g.m (.dK (mdK g.a0 g.a1 g.a2 g.a3 (room - 1 - 1))) = H4 at M3 ⊢
      walk_at "rd"
      refine ⟨g.m, _, rfl, M3.d3, ?_⟩
      refine ⟨x_tyL M3.li, ?_⟩
      walk_at "rd"
      walk_at "nw"
      rename_i q nq H5 s5 e5
      have M5 := M3.same s5
      clear M3 s5 nq
      obtain ⟨kd, hkd, hat, h8, h6, hkl⟩ := blkKind c1
      walk_at "rd"
      refine x_ixL (SqL.of e5) hat ?_
      walk_at "rd"
      have hln := I.ln
      refine x_appS (K := K) M5.li (by omega) ?_
      have M6 := M5.push kd
      have hsz := I.sz
      have R1 := R.blk I.ne hkd (by omega)
      clear M5 e5
      generalize upd H5 g.a3 (.lst ((lines ++ [kd]).map V.str)) = H6 at M6 ⊢
      have ne1 : S.stack ++ [kd] ≠ [] := by simp
      walk_at "rd"
      refine x_or2 (fun v H' => H' = H6 ∧ ∃ e : Bool, v = .bl e ∧ (e = true → ("ever" : Str) ∈ S.stack ++ [kd])) (fun Q' hQ => x_B (fun he => ?_) (fun _ => ?_)) ?_
      · exact hQ _ _ ⟨rfl, true, rfl, fun _ => List.mem_append_left _ (I.ev he)⟩
      · walk_at "rd"
        exact hQ _ _ ⟨rfl, _, rfl, fun e => List.mem_append_right _ (by rw [h8 (V.int.inj (of_decide_eq_true e))]; exact List.mem_cons_self)⟩
      rintro v H7 ⟨rfl, e, rfl, he⟩
      walk_at "rd"
      rw [show ((d1 + 1 : Nat) : Int) - 1 = (d1 : Int) by omega]
      refine ⟨Hb, g, nb, lines ++ [kd], room - 1 - 1, n + 1, { S with stack := S.stack ++ [kd] }, e, rfl, M6, G, R1, ⟨I.mo, ne1, by rw [List.length_append, List.length_singleton]; omega, he, by omega, by rw [List.length_append, List.length_singleton]; omega⟩, by omega, by omega, fun H8 lines8 room8 n8 S8 M8 R8 G8 => ?_⟩
      clear M6
      walk_at "rd"
      refine x_rgV ?_
      walk_at "rd"
      have hpn8 := G8.pn
      have hr8 := G8.r0
      have hr8b := G8.r1
      refine x_if2 (fun v H' => ∃ z n9 : Nat, v = .int z ∧ z ≤ 2 ∧ (z ≠ 0 → so = 6) ∧ MdAt Hb g nb H' lines8 room8 n9 ∧ n9 ≤ n8 + 1 ∧ n8 ≤ n9) (fun Q' hQ => x_D (fun hs => ?_) (fun _ => ?_)) ?_
      · walk_at "rd"
        refine ⟨g.d, g.cl, 3, g.ns, n8, rfl, M8.pn, by omega, by omega, by omega, fun z H9 z0 z1 k9 p9 => ?_⟩
        obtain ⟨z, rfl⟩ : ∃ k : Nat, z = k := ⟨z.toNat, by omega⟩
        exact hQ _ _ ⟨z, n8 + 1, rfl, by omega, fun _ => V.int.inj hs, M8.draw k9 p9, Nat.le_refl _, by omega⟩
      · walk_at "rd"
        exact hQ _ _ ⟨0, n8, rfl, by omega, fun z => absurd rfl z, M8, by omega, Nat.le_refl _⟩
      rintro v H9 ⟨tn, n9, rfl, ht2, h6b, M9, hn9, hn9b⟩
      walk_at "rd"
      refine ⟨by omega, by omega, ?_⟩
      have G9 : Grow g 2 0 0 (lines ++ [kd]) lines8 { S with stack := S.stack ++ [kd] } S8 (room - 1 - 1) room8 (n + 1) n9 := ⟨G8.mo, G8.st, G8.pr, G8.sk, G8.ca, G8.r0, G8.r1, G8.ln, G8.len, G8.mass, by omega⟩
      refine for_range (n := ((tn : Nat) : Int).toNat) (fun i σ H' => Hold (∃ (lines' : List Str) (room' : Int) (n' : Nat) (S' : LS) (x5 : Option V), σ = [some (V.ref g.d), some (V.ref g.m), some (V.int ((d1 + 1 : Nat) : Int)), some (V.bl ev), some (V.int so), x5] ∧ MdAt Hb g nb H' lines' room' n' ∧ Rds lines' S' ∧ Grow g (2 + i) i (3 * i) (lines ++ [kd]) lines' { S with stack := S.stack ++ [kd] } S' (room - 1 - 1) room' (n + 1) n')) ⟨lines8, room8, n9, S8, none, rfl, M9, R8, G9.le (by omega) (by omega) (by omega)⟩ ?_ ?_
      · rintro i σ H10 hi ⟨lines10, room10, n10, S10, x5, rfl, M10, R10, G10⟩
        have hk6 := h6 (h6b (by omega))
        have hl10 := G10.len
        have hr10 := G10.r0
        have hr10b := G10.r1
        have hp10 := G10.pn
        have hm10 := G10.mass
        rw [List.length_append, List.length_singleton] at hl10
        walk_at "rd"
        refine ⟨g.m, _, rfl, M10.d3, ?_⟩
        refine ⟨x_tyL M10.li, ?_⟩
        walk_at "rd"
        refine x_appS (K := K) M10.li (by omega) ?_
        have M11 := M10.push ("or" : Str)
        have hlast : S10.stack.getLast? = some ("either" : Str) := by rw [G10.sk]; show (S.stack ++ [kd]).getLast? = _; rw [List.getLast?_append, hk6]; rfl
        have R11 := R10.orL hlast
        clear M10
        generalize upd H10 g.a3 (.lst ((lines10 ++ [("or" : Str)]).map V.str)) = H11 at M11 ⊢
        have l_or : (("or" : Str)).length = 2 := by decide +kernel
        walk_at "rd"
        rw [show ((d1 + 1 : Nat) : Int) - 1 = (d1 : Int) by omega]
        have hsk10 : S10.stack = S.stack ++ [kd] := G10.sk
        refine ⟨Hb, g, nb, lines10 ++ [("or" : Str)], room10, n10, S10, ev, rfl, M11, G, R11, ⟨G10.mo.trans I.mo, by rw [hsk10]; exact ne1, by rw [hsk10, List.length_append, List.length_singleton]; omega, fun z => by rw [hsk10]; exact List.mem_append_left _ (I.ev z), by omega, by rw [List.length_append, List.length_singleton]; omega⟩, by omega, by omega, fun H12 lines12 room12 n12 S12 M12 R12 G12 => ?_⟩
        walk_at "rd"
        have G11 : Grow g 0 1 3 lines10 (lines10 ++ [("or" : Str)]) S10 S10 room10 room10 n10 n10 := ⟨rfl, rfl, rfl, rfl, fun c h => .inl h, hr10, Int.le_refl _, by rw [List.length_append]; omega, by rw [List.length_append, List.length_singleton]; omega, by rw [mass_snoc]; omega, by omega⟩
        exact ⟨lines12, room12, n12, S12, _, rfl, M12, R12, ((G10.trans G11).trans G12).le (by omega) (by omega) (by omega)⟩
      · rintro σ H10 ⟨lines10, room10, n10, S10, x5, rfl, M10, R10, G10⟩
        have hl10 := G10.len
        have hr10 := G10.r0
        have hr10b := G10.r1
        have hp10 := G10.pn
        have hm10 := G10.mass
        have hn10 := G10.ln
        rw [List.length_append, List.length_singleton] at hl10 hn10
        rw [mass_snoc] at hm10
        walk_at "rd"
        refine ⟨g.m, _, rfl, M10.d3, ?_⟩
        refine ⟨x_tyL M10.li, ?_⟩
        walk_at "rd"
        refine x_appS (K := K) M10.li (by omega) ?_
        have M11 := M10.push ("end" : Str)
        have hsk10 : S10.stack = S.stack ++ [kd] := G10.sk
        have R11 := R10.endL (by rw [hsk10]; exact ne1)
        have l_end : (("end" : Str)).length = 3 := by decide +kernel
        refine k _ _ _ _ _ M11 R11 ⟨G10.mo, G10.st, G10.pr, ?_, G10.ca, hr10, by omega, by rw [List.length_append]; omega, by rw [List.length_append, List.length_singleton]; omega, by rw [mass_snoc]; omega, by omega⟩
        show S10.stack.dropLast = S.stack
        rw [hsk10]
        simp
    · obtain ⟨M3, _⟩ := hp
      clear M1
      with_reducible refine x_ifP (fun b H' => ∃ n', MdAt Hb g nb H' lines (room - 1) n' ∧ n' ≤ n + 2 ∧ (b = true → g.called ≠ [])) (fun Rt hR => ?_) (fun H4 hp => ?_) (fun H4 hp => ?_)
      · walk_at "rd"
        refine x_D (fun h1 => ?_) (fun _ => ?_)
        · walk_at "rd"
          refine ⟨g.m, _, rfl, M3.d2, ?_⟩
          walk_at "rd"
          walk_at "nw"
          rename_i q nq H4 s4 e4
          have M4 := M3.same s4
          refine x_neE (SqL.of M4.g2) e4 ?_
          walk_at "rd"
          exact hR _ _ ⟨_, M4, by omega, fun e h => by rw [h] at e; cases e⟩
        · exact hR _ _ ⟨_, M3, by omega, fun e => by cases e⟩
      · obtain ⟨n4, M4, h4, hc⟩ := hp
        have hc := hc rfl
        walk_at "rd"
        refine ⟨g.m, _, rfl, M4.d3, ?_⟩
        refine ⟨x_tyL M4.li, ?_⟩
        walk_at "rd"
        refine ⟨g.m, _, rfl, M4.d2, ?_⟩
        walk_at "rd"
        refine ⟨g.d, g.cl, g.a2, _, g.ns, _, rfl, M4.pn, by omega, SqL.of M4.g2, by rw [List.length_map]; exact List.length_pos_iff.mpr hc, by rw [List.length_map]; have := G.c1; omega, fun v H5 hv k5 p5 => ?_⟩
        obtain ⟨cn, hcn, rfl⟩ := List.mem_map.mp hv
        obtain ⟨c1, c2⟩ := G.cn cn hcn
        have lcn := name_len c1
        have l_c : (("call " : Str)).length = 5 := by decide +kernel
        have M5 := M4.draw k5 p5
        refine ⟨_, _, rfl, rfl, by omega, ?_⟩
        walk_at "rd"
        exact one _ _ _ _ M5 (R.callL I.ne c1 c2) rfl rfl rfl rfl (fun c h => (List.mem_append.mp h).elim .inl fun h => .inr (by rw [List.mem_singleton.mp h]; exact hcn)) (by rw [Str.length_append]; omega) (by omega)
      · obtain ⟨n4, M4, h4, hc⟩ := hp
        clear M3 hc
        with_reducible refine x_ifP (fun b H' => MdAt Hb g nb H' lines (room - 1) n4 ∧ (b = true → ev = true)) (fun Rt hR => ?_) (fun H5 hp => ?_) (fun H5 hp => ?_)
        · walk_at "rd"
          walk_at "nw"
          rename_i q nq H5 s5 e5
          refine x_inI (l := [10, 11]) (SqL.of e5) ?_
          have M5 := M4.same s5
          walk_at "rd"
          refine x_D (fun h1 => ?_) (fun _ => ?_)
          · walk_at "rd"
            exact hR _ _ ⟨M5, fun e => e⟩
          · exact hR _ _ ⟨M5, fun e => by cases e⟩
        · obtain ⟨M5, hv⟩ := hp
          walk_at "rd"
          refine ⟨g.m, _, rfl, M5.d3, ?_⟩
          refine ⟨x_tyL M5.li, ?_⟩
          walk_at "rd"
          exact one _ _ _ _ M5 (R.tail I.ne (.inr ⟨rfl, I.ev (hv rfl)⟩)) rfl rfl rfl rfl (fun c h => .inl h) (by decide +kernel) (by omega)
        · obtain ⟨M5, _⟩ := hp
          clear M4
          with_reducible refine x_ifP (fun b H' => ∃ n', MdAt Hb g nb H' lines (room - 1) n' ∧ n' ≤ n4 + 1) (fun Rt hR => ?_) (fun H6 hp => ?_) (fun H6 hp => ?_)
          · walk_at "rd"
            refine x_D (fun h1 => ?_) (fun _ => ?_)
            · walk_at "rd"
              refine ⟨g.d, g.cl, 2, g.ns, _, rfl, M5.pn, by omega, by omega, by omega, fun z H6 z0 z1 k6 p6 => ?_⟩
              have M6 := M5.draw k6 p6
              walk_at "rd"
              exact hR _ _ ⟨_, M6, by omega⟩
            · exact hR _ _ ⟨_, M5, by omega⟩
          · obtain ⟨n6, M6, h6⟩ := hp
            walk_at "rd"
            refine ⟨g.m, _, rfl, M6.d3, ?_⟩
            refine ⟨x_tyL M6.li, ?_⟩
            walk_at "rd"
            walk_at "nw"
            rename_i q nq H7 s7 e7
            have M7 := M6.same s7
            walk_at "rd"
            refine ⟨g.d, g.cl, q, _, g.ns, _, rfl, M7.pn, by omega, SqL.of e7, by decide, by decide, fun v H8 hv k8 p8 => ?_⟩
            have M8 := M7.draw k8 p8
            obtain ⟨bs, rfl, hbs, hbl⟩ : ∃ z : Str, v = .str z ∧ z ∈ (["back", "stop"] : List Str) ∧ z.length ≤ 10 := by
              simp only [List.mem_cons, List.not_mem_nil, or_false] at hv
              rcases hv with rfl | rfl
              · exact ⟨_, rfl, by simp, by decide +kernel⟩
              · exact ⟨_, rfl, by simp, by decide +kernel⟩
            walk_at "rd"
            exact one _ _ _ _ M8 (R.tail I.ne (.inl hbs)) rfl rfl rfl rfl (fun c h => .inl h) (by omega) (by omega)
          · obtain ⟨n6, M6, h6⟩ := hp
            walk_at "rd"
            refine ⟨g.m, _, rfl, M6.d3, ?_⟩
            refine ⟨x_tyL M6.li, ?_⟩
            walk_at "rd"
            refine ⟨Hb, g, nb, lines, room - 1, n6, rfl, M6, G, by omega, fun z H7 dz M7 => ?_⟩
            walk_at "rd"
            exact one _ _ _ _ M7 (R.doL I.ne I.mo dz) rfl rfl rfl rfl (fun c h => .inl h) dz.len (by omega)
theorem Cal.mono {P : Program} {w : World} {K : PySem.W.Frag} {mg : Str → Option Value} {base : Heap} {j k : Nat} {x : Str} {sp : Sp} (c : Cal P w K mg base j x sp) (h : j ≤ k) : Cal P w K mg base k x sp :=
  let ⟨f, fd, ps, o, a, b, e⟩ := c.ex; ⟨f, fd, ps, o.mono h, a, b, e⟩
/-- bodies and pieces, by how deep they may go -/
theorem bodies_ok {f1 f2 : Addr} {fd1 fd2 : FuncData} (T : BodTxt mg) (F1 : Fun K "_law_piece" "_law_piece" s__law_piece f1 fd1) (F2 : Fun K "_law_body" "_law_body" s__law_body f2 fd2) (a1 : mg "_law_piece" = some (.ref f1)) (a2 : mg "_law_body" = some (.ref f2)) (b1 : Binds K fd1 P__law_piece []) (b2 : Binds K fd2 P__law_body [])
    (c__law_draw : Cal P w K mg base 1 "_law_draw" sp_draw) (c__law_pickL : Cal P w K mg base 2 "_law_pick" (sp_pickL K)) (c__law_work : Cal P w K mg base 3 "_law_work" sp_work) : ∀ dp : Nat, dp ≤ 8 → Cal P w K mg base (2 * dp + 6) "_law_body" (sp_body dp) := by
  intro dp
  induction dp with
  | zero =>
    intro h
    have c0 : Cal P w K mg base (2 * 0 + 4) "_law_body" (spB 0) := ⟨_, _, _, spB_ok (ps := P__law_body), a2, F2.kp, b2⟩
    have c1 : Cal P w K mg base (2 * 0 + 5) "_law_piece" (sp_piece 0) := ⟨_, _, _, fn_cx (ok_piece 0 h F1 T c__law_draw c__law_pickL c__law_work c0), a1, F1.kp, b1⟩
    exact ⟨_, _, _, fn_cx (ok_body 0 h F2 T c__law_draw c1), a2, F2.kp, b2⟩
  | succ d ih =>
    intro h
    have c0 : Cal P w K mg base (2 * (d + 1) + 4) "_law_body" (spB (d + 1)) := (ih (by omega)).mono (by omega)
    have c1 : Cal P w K mg base (2 * (d + 1) + 5) "_law_piece" (sp_piece (d + 1)) := ⟨_, _, _, fn_cx (ok_piece (d + 1) h F1 T c__law_draw c__law_pickL c__law_work c0), a1, F1.kp, b1⟩
    exact ⟨_, _, _, fn_cx (ok_body (d + 1) h F2 T c__law_draw c1), a2, F2.kp, b2⟩
end
end MP
end
section
namespace MP
open PySem L2
/-! ### a heap with some places hidden -/
def hide (l : List Addr) (H : Hp) : Hp := fun b => if b ∈ l then none else H b
theorem hide_get {l : List Addr} {H : Hp} {b : Addr} {o : HO} (h : hide l H b = some o) : b ∉ l ∧ H b = some o := by
  unfold hide at h
  by_cases e : b ∈ l
  · rw [if_pos e] at h; cases h
  · rw [if_neg e] at h; exact ⟨e, h⟩
theorem hide_at {l : List Addr} {H : Hp} {b : Addr} {o : HO} (h : H b = some o) (n : b ∉ l) : hide l H b = some o := (if_neg n).trans h
theorem hide_no {l : List Addr} {H : Hp} {b : Addr} (h : b ∈ l) : hide l H b = none := if_pos h
theorem hide_none {l : List Addr} {H : Hp} {b : Addr} (h : H b = none) : hide l H b = none := by
  unfold hide
  by_cases e : b ∈ l
  · exact if_pos e
  · exact (if_neg e).trans h
theorem hide_upd {l : List Addr} {H : Hp} {p : Addr} {o : HO} (h : p ∈ l) : hide l (upd H p o) = hide l H := by
  funext b
  unfold hide
  by_cases e : b ∈ l
  · rw [if_pos e, if_pos e]
  · rw [if_neg e, if_neg e]
    exact upd_ne fun z => e (by rw [z]; exact h)
theorem hide_same {l : List Addr} {H H' : Hp} (s : Same H H') : Same (hide l H) (hide l H') := fun b o e => let ⟨h1, h2⟩ := hide_get e; hide_at (s _ _ h2) h1
theorem hide_kept {l : List Addr} {d : Addr} {H H' : Hp} (s : Kept d H H') : Kept d (hide l H) (hide l H') := fun b o e n => let ⟨h1, h2⟩ := hide_get e; hide_at (s _ _ h2 n) h1
theorem TupsAt.same {H H' : Hp} {ts : List Addr} {ms : List (Str × List Str)} (t : TupsAt H ts ms) (s : Same H H') : TupsAt H' ts ms := t.mono (fun b xs e => s _ _ e) fun b xs e => s _ _ e
/-- modes and lines, while the modes are drawn -/
structure M1At (H : Hp) (a0 a3 : Addr) (ts : List Addr) (ms : List (Str × List Str)) (ls : List Str) : Prop where
  e0 : H a0 = some (.lst (ts.map V.ref))
  e3 : H a3 = some (.lst (ls.map V.str))
  ne : a0 ≠ a3
  tu : TupsAt (hide [a0, a3] H) ts ms
section
variable {H H' : Hp} {a0 a3 : Addr} {ts : List Addr} {ms : List (Str × List Str)} {ls : List Str}
theorem M1At.same (A : M1At H a0 a3 ts ms ls) (s : Same H H') : M1At H' a0 a3 ts ms ls := ⟨s _ _ A.e0, s _ _ A.e3, A.ne, A.tu.same (hide_same s)⟩
theorem M1At.kept {d cl : Addr} {ns : List Int} {n : Nat} (A : M1At H a0 a3 ts ms ls) (k : Kept d H H') (p : PenL H d cl ns n) : M1At H' a0 a3 ts ms ls :=
  ⟨k.lst p A.e0, k.lst p A.e3, A.ne, A.tu.mono (fun b xs e => let ⟨h1, h2⟩ := hide_get e; hide_at (k.lst p h2) h1) fun b xs e => let ⟨h1, h2⟩ := hide_get e; hide_at (k.tup p h2) h1⟩
theorem M1At.push3 (A : M1At H a0 a3 ts ms ls) (l : Str) : M1At (upd H a3 (.lst ((ls ++ [l]).map V.str))) a0 a3 ts ms (ls ++ [l]) :=
  ⟨by rw [upd_ne A.ne]; exact A.e0, upd_same, A.ne, by rw [hide_upd (by simp)]; exact A.tu⟩
theorem M1At.push0 (A : M1At H a0 a3 ts ms ls) {t v : Addr} {x : Str × List Str} (h1 : H t = some (.tup [.str x.1, .ref v])) (h2 : H v = some (.lst (x.2.map V.str))) (n0 : v ≠ a0) (n3 : v ≠ a3) : M1At (upd H a0 (.lst ((ts ++ [t]).map V.ref))) a0 a3 (ts ++ [t]) (ms ++ [x]) ls := by
  have t0 : t ≠ a0 := ne_of h1 A.e0 fun z => by cases z
  have t3 : t ≠ a3 := ne_of h1 A.e3 fun z => by cases z
  refine ⟨upd_same, by rw [upd_ne (Ne.symm A.ne)]; exact A.e3, A.ne, ?_⟩
  rw [hide_upd (by simp)]
  exact A.tu.snoc (hide_at h1 (by simp [t0, t3])) (hide_at h2 (by simp [n0, n3]))
end
/-- what a drawn price is -/
structure PrOk (p : Str) : Prop where
  pr : isPrice p = true
  w : isW p = true
  len : p.length ≤ 31
theorem prOk_made {m : Nat} (h0 : 0 < m) (h : m ≤ 1000000000000000000000000000000) : PrOk (Str.ofString (toString ((m : Nat) : Int))) := ⟨priceN_ok h0 h, price_W, str_int_len (by decide) (by omega)⟩
def LS0 (ms : List (Str × List Str)) (st : List Str) : LS := ⟨ms, st, [], [], []⟩
theorem pairs_bd : ∀ {vs ps : List Str}, vs.length = ps.length → (∀ v ∈ vs, isName v = true) → (∀ p ∈ ps, PrOk p) → Bd (2 * vs.length) 31 (pairsL vs ps) := by
  intro vs ps h hv hp
  obtain ⟨_, _, e3⟩ := ev_pairs h
  exact ⟨by omega, fun x hx => (pairs_mem hx).elim (fun h => by have := name_len (hv x h); omega) fun h => (hp x h).len⟩
theorem mode_len {m : Str} {vs ps : List Str} (hm : m.length ≤ 12) (h : vs.length = ps.length) (h4 : vs.length ≤ 4) (hv : ∀ v ∈ vs, isName v = true) (hp : ∀ p ∈ ps, PrOk p) : (Txt.join (" " : Str) (("mode" : Str) :: m :: pairsL vs ps)).length ≤ 300 := by
  have b := pairs_bd h hv hp
  have l_m : (("mode" : Str)).length = 4 := by decide +kernel
  have l_b : ((" " : Str)).length = 1 := by decide +kernel
  have b2 : Bd (2 * vs.length + 1 + 1) 31 (("mode" : Str) :: m :: pairsL vs ps) := Bd.cons (by omega) (Bd.cons (by omega) b)
  rw [TL.join_eq]
  have h1 := join_le0 (" " : Str) (("mode" : Str) :: m :: pairsL vs ps)
  have h2 := b.sum
  have h3 := b.n
  rw [List.map_cons, List.map_cons, List.sum_cons, List.sum_cons, List.length_cons, List.length_cons, l_b, l_m] at h1
  omega
theorem log_ok {m k : Nat} (hm : m < 10 ^ k) (hk : 0 < k) (h2 : k ≤ 500) : (((m : Nat) : Int)).natAbs.log2 < 1920 := (x_strN (Q := fun _ _ => True) (H := fun _ => none) (x := ((m : Nat) : Int)) (m := m) k rfl hm hk h2 fun _ => trivial).1
theorem MdAt.reb {Hb H : Hp} {g : GP} {nb n : Nat} {lines : List Str} {room : Int} (A : MdAt Hb g nb H lines room n) : MdAt (hide [g.m, g.a3] H) g n H lines room n := by
  have ok : ∀ b o, Hb b = some o → b ∉ [g.m, g.a3] := fun b o e => by
    simp only [List.mem_cons, List.not_mem_nil, or_false, not_or]
    exact ⟨ne_of_none e A.nm, ne_of_none e A.n3⟩
  have n1 := A.pb.ne A.nm
  have n3 := A.pb.ne A.n3
  refine ⟨fun b o e _ => (hide_get e).2, ?_, hide_no (by simp), hide_no (by simp), A.m3, hide_at A.g0 (ok _ _ A.i0), ?_, hide_at A.g1 (ok _ _ A.i1), hide_at A.g2 (ok _ _ A.i2), A.dc, A.li, A.pn⟩
  · obtain ⟨x, y, q, hx⟩ := A.pn
    exact ⟨x, y, ⟨hide_at q.dc (by simp [Ne.symm n1.1, Ne.symm n3.1]), hide_at q.cl (by simp [Ne.symm n1.2, Ne.symm n3.2]), q.na, q.nb, q.len⟩, hx⟩
  · exact A.it.mono (fun b xs e => hide_at (A.kp.lst A.pb e) (ok _ _ e)) fun b xs e => hide_at (A.kp.tup A.pb e) (ok _ _ e)
/-- the names of the procedures, in their order -/
theorem procs_ok {ot : List Str} {y : Nat} (h : ot.length ≤ 3) (hn : ∀ z ∈ ot, isName z = true ∧ z ≠ ("main" : Str)) (hd : ot.Nodup) : let l := ot.take y ++ [("main" : Str)] ++ ot.drop y
    l.length ≤ 4 ∧ l.Nodup ∧ (∀ z ∈ l, isName z = true) ∧ ("main" : Str) ∈ l ∧ ∀ z ∈ ot, z ∈ l := by
  intro l
  have hm : isName ("main" : Str) = true := by decide +kernel
  have hsplit : ot = ot.take y ++ ot.drop y := (List.take_append_drop y ot).symm
  refine ⟨?_, ?_, fun z hz => ?_, ?_, fun z hz => ?_⟩
  · show (ot.take y ++ [("main" : Str)] ++ ot.drop y).length ≤ 4
    rw [List.length_append, List.length_append, List.length_singleton, List.length_take, List.length_drop]
    omega
  · show (ot.take y ++ [("main" : Str)] ++ ot.drop y).Nodup
    have h1 : (ot.take y ++ ot.drop y).Nodup := hsplit ▸ hd
    have h2 := List.nodup_append.mp h1
    rw [List.append_assoc, List.nodup_append]
    refine ⟨h2.1, ?_, ?_⟩
    · rw [List.nodup_append]
      exact ⟨by simp, h2.2.1, fun a ha b hb e => by
        rw [List.mem_singleton.mp ha] at e
        exact (hn b (List.mem_of_mem_drop hb)).2 e.symm⟩
    · intro a ha b hb
      rcases List.mem_append.mp hb with hb | hb
      · rw [List.mem_singleton.mp hb]
        exact (hn a (List.mem_of_mem_take ha)).2
      · exact h2.2.2 a ha b hb
  · rcases List.mem_append.mp hz with hz | hz
    · rcases List.mem_append.mp hz with hz | hz
      · exact (hn z (List.mem_of_mem_take hz)).1
      · rw [List.mem_singleton.mp hz]; exact hm
    · exact (hn z (List.mem_of_mem_drop hz)).1
  · exact List.mem_append_left _ (List.mem_append_right _ List.mem_cons_self)
  · rw [hsplit] at hz
    rcases List.mem_append.mp hz with hz | hz
    · exact List.mem_append_left _ (List.mem_append_left _ hz)
    · exact List.mem_append_right _ hz
end MP
end
section
open PySem L2 MPX MP
local macro_rules | `(tactic| walk_at "rd1") => `(tactic| first
  | with_reducible refine x_seq ?_
  | with_reducible refine x_next ?_
  | with_reducible refine x_ret ?_
  | with_reducible refine x_retN ?_
  | with_reducible refine x_ifs ?_
  | with_reducible refine x_asg ?_
  | with_reducible refine x_drop ?_
  | with_reducible refine x_name ?_
  | ((with_reducible refine' x_var ?vv ?_); (case vv => exact rfl))
  | with_reducible refine x_c ?_
  | with_reducible refine x_op ?_
  | with_reducible refine x_un ?_
  | with_reducible refine x_test ?_
  | with_reducible refine x_tB ?_
  | with_reducible refine x_and ?_
  | with_reducible refine x_or ?_
  | with_reducible refine x_not ?_
  | with_reducible refine x_andV ?_
  | with_reducible refine x_orV ?_
  | with_reducible refine x_notV ?_
  | with_reducible refine x_if ?_
  | with_reducible refine x_nil ?_
  | with_reducible refine x_cons ?_
  | with_reducible refine x_tup ?_
  | with_reducible refine x_lst ?_
  | with_reducible refine x_cb ?_
  | with_reducible refine x_call ?_
  | with_reducible refine x_callS ?_
  | with_reducible refine x_callP ?_
  | with_reducible refine x_mk0 ?_
  | with_reducible refine x_mk1 ?_
  | with_reducible refine x_mk2 ?_
  | with_reducible refine x_make ?_
  | with_reducible refine x_sfld ?_
  | with_reducible refine x_din ?_
  | with_reducible refine x_dnin ?_
  | with_reducible refine x_fldS ?_
  | with_reducible refine x_sl3 ?_
  | ((with_reducible refine' r_rd ?vr ?vt ?vm ?vl ?vq); (case vr => (with_reducible assumption)); (case vt => assumption); (case vm => decide +kernel); (case vl => exact rfl))
  | with_reducible refine x_m0 ?_
  | with_reducible refine x_m1 ?_
  | with_reducible refine x_bm0 ?_
  | with_reducible refine x_bm ?_
  | with_reducible refine x_par ?_
  | with_reducible refine x_ilist ?_
  | with_reducible refine x_itup ?_
  | with_reducible refine x_istr ?_
  | ((with_reducible show tLc _ _ _ _ _ _ _ _); unfold tLc)
  | ((with_reducible show tFor _ _ _ _ _ _); unfold tFor)
  | ((with_reducible refine' x_eq ?vv ?_); (case vv => exact rfl))
  | ((with_reducible refine' x_ne ?vv ?_); (case vv => exact rfl))
  | with_reducible refine x_rI0 ?_
  | with_reducible refine x_dgetR ?_
  | with_reducible refine x_dputR ?_
  | with_reducible refine x_dnew ?_
  | with_reducible refine x_dget1 ?_
  | with_reducible refine x_dget2 ?_
  | with_reducible refine x_sl ?_
  | with_reducible refine x_nopart ?_
  | with_reducible refine x_part ?_
  | ((with_reducible refine' x_slL ?vv ?_); (case vv => (with_reducible assumption)))
  | with_reducible refine x_disp ?_
  | with_reducible refine x_pcons ?_
  | with_reducible refine x_pnil ?_
  | ((with_reducible refine' x_mod ?vv ?_); (case vv => omega); intro r er hr0 hr1)
  | ((with_reducible refine' x_rI ?vv ?_); (case vv => walk_at "sc"))
  | (with_reducible refine Or.inl (Exists.intro _ (And.intro rfl ?_)))
  | with_reducible refine x_T ?_
  | with_reducible refine x_F ?_
  | ((with_reducible show Exists (α := V) _); (with_reducible apply Exists.intro))
  | ((with_reducible show Exists (α := Bool) _); (with_reducible apply Exists.intro))
  | ((with_reducible show Exists (α := Nat) _); (with_reducible apply Exists.intro))
  | ((with_reducible show Exists (α := Int) _); (with_reducible apply Exists.intro))
  | ((with_reducible show Exists (α := List V) _); (with_reducible apply Exists.intro))
  | ((with_reducible show Exists (α := PySem.Str) _); (with_reducible apply Exists.intro))
  | ((with_reducible show Exists (α := Option V) _); (with_reducible apply Exists.intro))
  | ((with_reducible show Exists (α := Option Int) _); (with_reducible apply Exists.intro))
  | ((with_reducible show Exists (α := List (Key × V)) _); (with_reducible apply Exists.intro))
  | refine And.intro rfl ?_
  | ((with_reducible refine And.intro ?vv ?_); (case vv => (first | (with_reducible assumption) | (show _ ≤ sizeLine; decide) | exact len_ok rfl)))
  | (refine And.intro (Exists.intro _ rfl) ?_))
local macro_rules | `(tactic| walk_at "sc") => `(tactic| first
  | (with_reducible assumption)
  | exact divW (by omega) (by omega)
  | exact mulW (by omega) (by omega)
  | exact Or.inl ⟨by omega, by omega⟩
  | exact Or.inr ⟨by omega, by omega⟩
  | (show (_ : Int) ≠ 0; omega)
  | exact ⟨by decide, by decide, by decide⟩
  | decide)
local macro_rules | `(tactic| walk_at "rd") => `(tactic| repeat walk_at "rd1")
local macro_rules | `(tactic| walk_at "nw") => `(tactic| (intro pX nX; generalize eX : upd _ pX _ = HX; have sX := nw_same eX nX; have qX := nw_at eX; clear eX))
local macro_rules | `(tactic| walk_at "hp") => `(tactic| repeat (first
  | (with_reducible assumption)
  | (with_reducible exact Kept.refl _ _)
  | (with_reducible exact Same.rfl')
  | (with_reducible apply Same.at; with_reducible assumption)
  | (with_reducible apply PenL.up; with_reducible assumption)
  | (with_reducible apply Kept.lst; with_reducible assumption; focus (walk_at "hp"; done))
  | (with_reducible apply Kept.tup; with_reducible assumption; focus (walk_at "hp"; done))
  | focus (with_reducible apply SqL.of; walk_at "hp"; done)
  | (with_reducible apply SqL.up; with_reducible assumption)
  | (with_reducible apply SqL.kp; with_reducible assumption; focus (walk_at "hp"; done))
  | (with_reducible apply Kept.snoc; with_reducible assumption)
  | (with_reducible apply Kept.snocS; with_reducible assumption)
  | (with_reducible apply Same.snoc; with_reducible assumption)
  | assumption))
namespace MP
open PySem L2
section
variable {P : Program} {w : World} {K : PySem.W.Frag} {mg : Str → Option Value} {base : Heap}
abbrev s__law_lines : Stmt := topS 51
abbrev N__law_lines : List Str := ["_law_pen_here", "_law_deep", "_law_room", "_law_modes", "_law_lines_here", "_law_name", "_law_values", "_law_words", "_law_value", "_law_others", "_law_made", "_law_place"]
abbrev P__law_lines : List Str := ["_law_pen_here", "_law_deep", "_law_room"]
theorem sc__law_lines : FnScope N__law_lines P__law_lines (defScope s__law_lines) := ⟨rfl, rfl, rfl, by decide +kernel, rfl, by decide +kernel, by decide +kernel⟩
structure LinTxt (mg : Str → Option Value) : Prop where
  b_len : mg "len" = none
  b_range : mg "range" = none
  b_str : mg "str" = none
/-- the lines of a drawn program -/
structure LinOk (L : List Str) (room : Int) (S : LS) : Prop where
  rd : Rds L S
  en : lEnd S
  len : (L.length : Int) ≤ 20 + 2 * room
  mass : (massOf L : Int) ≤ 1500 + 110 * room
  ge : 3 ≤ L.length
  mo : S.modes ≠ []
  nm : ModesOk S.modes
def sp_lines : Sp := fun vs H Q _ => ∃ (d cl : Addr) (dp : Nat) (room : Int) (ns : List Int) (n : Nat), vs = [.ref d, .int dp, .int room] ∧ PenL H d cl ns n ∧ n < 700000000 ∧ dp ≤ 4 ∧ 0 ≤ room ∧ room ≤ 40 ∧
  ∀ q H' L S n', LinOk L room S → Kept d H H' → H q = none → PenL H' d cl ns n' → n' ≤ n + 3000 → H' q = some (.lst (L.map V.str)) → Q (.ref q) H'
theorem LinOk.ne {L : List Str} {room : Int} {S : LS} (h : LinOk L room S) : L ≠ [] := fun e => by have := h.ge; rw [e] at this; simp at this
theorem ok_lines {f : Addr} {fd : FuncData} (F : Fun K "_law_lines" "_law_lines" s__law_lines f fd) (T : LinTxt mg) (c__law_draw : Cal P w K mg base 1 "_law_draw" sp_draw) (c__law_pickL : Cal P w K mg base 2 "_law_pick" (sp_pickL K)) (c__law_names : Cal P w K mg base 3 "_law_names" sp_names) (c__law_work : Cal P w K mg base 3 "_law_work" sp_work) (cB : ∀ dp ≤ 4, Cal P w K mg base 14 "_law_body" (sp_body dp)) : FnOk P w K mg base CX0 15 f fd P__law_lines sp_lines := by
  refine F.ok sc__law_lines (fun vs H Q E h => ?_) (fun cdv A outer s H vs Q E hr h => ?_)
  · obtain ⟨d, cl, dp, room, ns, n, rfl, _⟩ := h
    rfl
  · obtain ⟨d, cl, dp, room, ns, n, rfl, p, hn, hdp, hr0, hr1, k⟩ := h
    have hu := hu_of hr
    have c__law_body := cB dp hdp
    have big : sizeLine = 16777216 := sizeLine_eq
    refine ⟨_, (pss_cons (ps_par (i := 3) (j := 4) (by rfl) sc__law_lines.nd rfl rfl (by decide) rfl rfl (pa_cons (pe_lst pa_nil) (pa_cons (pe_lst pa_nil) pa_nil)) (by rfl))
      (pss_cons (ps_for PassesOwn.never rfl (pi_list (pe_cc c__law_names hr (by decide) rfl (pa_cons (pv 0) (pa_cons (pe_op op_add pe_int (pe_cc c__law_draw hr (by decide) rfl (pa_cons (pv 0) (pa_cons pe_int pa_nil)))) pa_nil)))) (pg_name (i := 5) sc__law_lines.nd rfl (Or.inl rfl))
      (pss_cons (ps_set (i := 6) sc__law_lines.nd rfl (Or.inl rfl) (pe_cc c__law_names hr (by decide) rfl (pa_cons (pv 0) (pa_cons (pe_op op_add pe_int (pe_cc c__law_draw hr (by decide) rfl (pa_cons (pv 0) (pa_cons pe_int pa_nil)))) pa_nil))))
      (pss_cons (ps_expr (pe_bm PySem.F.plainAttrs_list PySem.F.slot_list_append PySem.F.type_list_append mt_append (pv 3) (pa_cons (pe_tup (pa_cons (pv 5) (pa_cons (pv 6) pa_nil))) pa_nil)))
      (pss_cons (ps_set (i := 7) sc__law_lines.nd rfl (Or.inl rfl) (pe_lst (pa_cons pe_str (pa_cons (pv 5) pa_nil))))
      (pss_cons (ps_for PassesOwn.never rfl (pi_list (pv 6)) (pg_name (i := 8) sc__law_lines.nd rfl (Or.inl rfl))
        (pss_one (ps_set (i := 7) sc__law_lines.nd rfl (Or.inl rfl) (pe_op op_cat (pv 7) (pe_lst (pa_cons (pv 8) (pa_cons (pe_callTy call_str_int (by rfl) T.b_str (by decide +kernel) (pa_cons (pe_op op_add pe_int (pe_ix ix_list (pe_lst (pa_cons (pe_cc c__law_draw hr (by decide) rfl (pa_cons (pv 0) (pa_cons pe_int pa_nil))) (pa_cons (pe_cc c__law_draw hr (by decide) rfl (pa_cons (pv 0) (pa_cons pe_int pa_nil))) (pa_cons (pe_op op_sub (pe_op op_pow pe_int pe_int) pe_int) pa_nil)))) (pe_cc c__law_draw hr (by decide) rfl (pa_cons (pv 0) (pa_cons pe_int pa_nil))) (fun _ _ => rfl))) pa_nil)) pa_nil)))))))
      (pss_one (ps_expr (pe_bm PySem.F.plainAttrs_list PySem.F.slot_list_append PySem.F.type_list_append mt_append (pv 4) (pa_cons (pe_join pe_str (pv 7)) pa_nil)))))))))
      (pss_cons (ps_for PassesOwn.never rfl (pi_list (pv 3)) (pg_tup rfl (pgs_cons (pg_name (i := 5) sc__law_lines.nd rfl (Or.inl rfl)) (pgs_cons (pg_name (i := 6) sc__law_lines.nd rfl (Or.inl rfl)) pgs_nil)))
      (pss_one (ps_if (pt_cmpR op_eq (pe_cc c__law_draw hr (by decide) rfl (pa_cons (pv 0) (pa_cons pe_int pa_nil))) pe_int (nomark _)) (pss_one (ps_expr (pe_bm PySem.F.plainAttrs_list PySem.F.slot_list_append PySem.F.type_list_append mt_append (pv 4) (pa_cons (pe_op op_add_str (pe_op op_add_str (pe_op op_add_str pe_str (pv 5)) pe_str) (pe_cc c__law_pickL hr (by decide) rfl (pa_cons (pv 0) (pa_cons (pv 6) pa_nil)))) pa_nil)))) pss_nil)))
      (pss_cons (ps_setLc (i := 9) (own := [("_law_name", 5)]) (g := gName 5) rfl sc__law_lines.nd rfl rfl (sw_true rfl rfl rfl (by decide +kernel)) (pi_list (pe_cc c__law_names hr (by decide) rfl (pa_cons (pv 0) (pa_cons (pe_cc c__law_draw hr (by decide) rfl (pa_cons (pv 0) (pa_cons pe_int pa_nil))) pa_nil)))) (blkOk_by (own := [("_law_name", 5)]) (N := N__law_lines) (sc := defScope s__law_lines) (by decide +kernel)) (fun _ _ _ _ _ => (pg_name (i := 5) sc__law_lines.nd rfl (Or.inl rfl))) (fun _ _ _ _ _ => (pts_one (pt_cmpR op_ne (pv 5) pe_str (nomark _)))) (fun _ _ _ _ _ => (pv 5)))
      (pss_cons (ps_set (i := 10) sc__law_lines.nd rfl (Or.inl rfl) (pe_disp (pps_cons pe_str (pv 3) (pps_cons pe_str (pe_cc c__law_names hr (by decide) rfl (pa_cons (pv 0) (pa_cons pe_int pa_nil))) (pps_cons pe_str (pv 9) (pps_cons pe_str (pv 4) (pps_cons pe_str (pv 2) pps_nil))))) (by rfl) (by rfl) (fun z => by cases z) (by decide)))
      (pss_cons (ps_set (i := 11) sc__law_lines.nd rfl (Or.inl rfl) (pe_cc c__law_draw hr (by decide) rfl (pa_cons (pv 0) (pa_cons (pe_op op_add (pe_callB call_len_seq (by rfl) T.b_len (by decide +kernel) (pa_cons (pv 9) pa_nil)) pe_int) pa_nil))))
      (pss_cons (ps_for PassesOwn.never rfl (pi_list (pe_op op_cat (pe_op op_cat (pe_slice sl_list (pv 9) po_none (po_some (pv 11))) (pe_lst (pa_cons pe_str pa_nil))) (pe_slice sl_list (pv 9) (po_some (pv 11)) po_none))) (pg_name (i := 5) sc__law_lines.nd rfl (Or.inl rfl))
      (pss_cons (ps_expr (pe_bm PySem.F.plainAttrs_list PySem.F.slot_list_append PySem.F.type_list_append mt_append (pe_dget hu (pv 10) pe_str (fun _ _ => rfl)) (pa_cons (pe_op op_add_str pe_str (pv 5)) pa_nil)))
      (pss_cons (ps_expr (pe_cc c__law_body hr (by decide) rfl (pa_cons (pv 0) (pa_cons (pv 10) (pa_cons (pv 1) (pa_cons pe_bl pa_nil))))))
      (pss_word (ps_if (PW.pt (pw_or (pt_cmpR op_eq (pv 5) pe_str (nomark _)) (pw_or1 (pt_cmpR op_eq (pe_cc c__law_draw hr (by decide) rfl (pa_cons (pv 0) (pa_cons pe_int pa_nil))) pe_int (nomark _))))) (pss_one (ps_expr (pe_bm PySem.F.plainAttrs_list PySem.F.slot_list_append PySem.F.type_list_append mt_append (pe_dget hu (pv 10) pe_str (fun _ _ => rfl)) (pa_cons (pe_cc c__law_work hr (by decide) rfl (pa_cons (pv 0) (pa_cons (pv 10) pa_nil))) pa_nil)))) pss_nil)
      (pss_one (ps_expr (pe_bm PySem.F.plainAttrs_list PySem.F.slot_list_append PySem.F.type_list_append mt_append (pe_dget hu (pv 10) pe_str (fun _ _ => rfl)) (pa_cons pe_str pa_nil))))))))
      (pss_one (ps_ret (pe_dget hu (pv 10) pe_str (fun _ _ => rfl))))))))))), ?_⟩
    show tSeq _ _ _ [some (V.ref d), some (V.int dp), some (V.int room), none, none, none, none, none, none, none, none, none] H
    walk_at "rd"
    walk_at "nw"
    rename_i a0 na0 H1 s1 e1
    walk_at "rd"
    walk_at "nw"
    rename_i a3 na3 H2 s2 e2
    walk_at "rd"
    have n03 : a0 ≠ a3 := ne_of_none e1 na3
    have na3' : H a3 = none := by
      cases e : H a3 with
      | none => rfl
      | some o => rw [s1 _ _ e] at na3; cases na3
    have M : M1At H2 a0 a3 [] [] [] := ⟨s2 _ _ e1, e2, n03, trivial⟩
    have k2 : Kept d H H2 := Kept.of (s1.trans s2)
    have p2 : PenL H2 d cl ns n := (p.mono s1).mono s2
    have d0 := p.ne na0
    have d3 := p.ne na3'
    clear s1 s2 e1 e2 na3
    refine ⟨d, cl, 3, ns, n, rfl, p2, by omega, by omega, by omega, fun z H3 z0 z1 k3 p3 => ?_⟩
    obtain ⟨z, rfl⟩ : ∃ k : Nat, z = k := ⟨z.toNat, by omega⟩
    replace M := M.kept k3 p2
    replace k2 := k2.trans k3
    clear p2 k3
    walk_at "rd"
    rw [show (1 : Int) + ((z : Nat) : Int) = ((1 + z : Nat) : Int) by omega]
    refine ⟨d, cl, 1 + z, ns, _, rfl, p3, by omega, by omega, fun qn H4 nm hnm k4 nqn p4 e4 => ?_⟩
    have qn0 : qn ≠ a0 := (ne_of_none M.e0 nqn).symm
    have qn3 : qn ≠ a3 := (ne_of_none M.e3 nqn).symm
    replace M := M.kept k4 p3
    replace k2 := k2.trans k4
    clear p3 k4 nqn
    walk_at "rd"
    refine ⟨⟨_, SqL.of e4⟩, for_list (xs := nm.map V.str) (fun i σ H' => Hold (∃ (ts : List Addr) (ms : List (Str × List Str)) (ls : List Str) (x5 x6 x7 x8 : Option V), σ = [some (V.ref d), some (V.int dp), some (V.int room), some (V.ref a0), some (V.ref a3), x5, x6, x7, x8, none, none, none] ∧ M1At H' a0 a3 ts ms ls ∧ Rds ls (LS0 ms []) ∧ ms.map (·.1) = nm.take i ∧ (∀ x ∈ ms, isName x.1 = true ∧ x.2 ≠ [] ∧ x.2.length ≤ 4 ∧ ∀ v ∈ x.2, isName v = true) ∧ ls.length = i ∧ massOf ls ≤ 301 * i ∧ H' qn = some (.lst (nm.map V.str)) ∧ PenL H' d cl ns (n + 16 + 40 * i) ∧ Kept d H H'))
      ⟨[], [], [], none, none, none, none, rfl, M, ⟨Reads.nil, (fun z h => by cases h)⟩, rfl, (fun x h => by cases h), rfl, Nat.le_refl _, e4, p4, k2⟩ (fun i σ H' _ ⟨_, _, _, _, _, _, _, _, _, _, _, _, _, _, e, _⟩ => SqL.of e) ?_ ?_⟩
    · rintro i x σ H5 hi ⟨ts, ms, ls, x5, x6, x7, x8, rfl, M, R, hms, hmo, hl, hmass, e5, p5, k5⟩
      obtain ⟨nx, hnx, hnxi, rfl⟩ := mem_at hi
      have nnx := hnm.nm nx hnx
      have lnx := name_len nnx
      have hil := (List.getElem?_eq_some_iff.mp hnxi).1
      have hnl := hnm.len
      walk_at "rd"
      refine ⟨d, cl, 4, ns, _, rfl, p5, by omega, by omega, by omega, fun y H6 y0 y1 k6 p6 => ?_⟩
      obtain ⟨y, rfl⟩ : ∃ k : Nat, y = k := ⟨y.toNat, by omega⟩
      replace M := M.kept k6 p5
      replace e5 := k6.lst p5 e5
      replace k5 := k5.trans k6
      clear p5 k6
      walk_at "rd"
      rw [show (1 : Int) + ((y : Nat) : Int) = ((1 + y : Nat) : Int) by omega]
      refine ⟨d, cl, 1 + y, ns, _, rfl, p6, by omega, by omega, fun va H7 vs hvs k7 nva p7 e7 => ?_⟩
      have va0 : va ≠ a0 := (ne_of_none M.e0 nva).symm
      have va3 : va ≠ a3 := (ne_of_none M.e3 nva).symm
      replace M := M.kept k7 p6
      replace e5 := k7.lst p6 e5
      replace k5 := k5.trans k7
      clear p6 k7 nva
      have hvl := hvs.len
      walk_at "rd"
      refine ⟨x_tyL M.e0, ?_⟩
      walk_at "rd"
      walk_at "nw"
      rename_i tp ntp H8 s8 e8
      replace M := M.same s8
      replace e5 := s8 _ _ e5
      replace e7 := s8 _ _ e7
      replace k5 := k5.trans (Kept.of s8)
      replace p7 := p7.mono s8
      clear s8 ntp
      have htl : ts.length = ms.length := M.tu.len
      have hml : ms.length ≤ i := by have := congrArg List.length hms; rw [List.length_map, List.length_take] at this; omega
      walk_at "rd"
      refine x_app (K := K) M.e0 (by rw [List.length_map]; omega) ?_
      replace M := M.push0 (x := (nx, vs)) e8 e7 va0 va3
      replace e5 : upd H8 a0 (.lst ((ts ++ [tp]).map V.ref)) qn = _ := (upd_ne qn0).trans e5
      replace e7 : upd H8 a0 (.lst ((ts ++ [tp]).map V.ref)) va = _ := (upd_ne va0).trans e7
      replace k5 := k5.new (o := .lst ((ts ++ [tp]).map V.ref)) na0
      replace p7 := p7.off (o := .lst ((ts ++ [tp]).map V.ref)) d0.1 d0.2
      rw [show ts.map V.ref ++ [V.ref tp] = (ts ++ [tp]).map V.ref from by rw [List.map_append]; rfl]
      generalize upd H8 a0 (.lst ((ts ++ [tp]).map V.ref)) = H9 at M e5 e7 k5 p7 ⊢
      clear e8
      walk_at "rd"
      walk_at "nw"
      rename_i wa nwa H10 s10 e10
      have e10' : H10 wa = some (.lst ((("mode" : Str) :: nx :: pairsL [] []).map V.str)) := e10
      replace M := M.same s10
      replace e5 := s10 _ _ e5
      replace e7 := s10 _ _ e7
      replace k5 := k5.trans (Kept.of s10)
      replace p7 := p7.mono s10
      clear s10 nwa e10
      have l_m : (("mode" : Str)).length = 4 := by decide +kernel
      walk_at "rd"
      refine ⟨⟨_, SqL.of e7⟩, for_list (xs := vs.map V.str) (fun j σ H' => Hold (∃ (wa : Addr) (ps : List Str) (x8 : Option V), σ = [some (V.ref d), some (V.int dp), some (V.int room), some (V.ref a0), some (V.ref a3), some (V.str nx), some (V.ref va), some (V.ref wa), x8, none, none, none] ∧ ps.length = j ∧ (∀ q ∈ ps, PrOk q) ∧ H' wa = some (.lst ((("mode" : Str) :: nx :: pairsL (vs.take j) ps).map V.str)) ∧ PenL H' d cl ns (n + 16 + 40 * i + 16 + 4 * j) ∧ Kept d H10 H'))
        ⟨wa, [], x8, rfl, rfl, (fun q h => by cases h), e10', p7.le (by omega), Kept.refl _ _⟩ (fun j σ H' _ ⟨_, _, _, _, _, _, _, _, kk⟩ => SqL.of (kk.lst p7 e7)) ?_ ?_⟩
      · rintro j x σ H11 hj ⟨wa, ps, x8, rfl, hps, hpr, e11, p11, k11⟩
        obtain ⟨vl, hvlm, hvli, rfl⟩ := mem_at hj
        have hjl := (List.getElem?_eq_some_iff.mp hvli).1
        have htk : vs.take (j + 1) = vs.take j ++ [vl] := by rw [List.take_add_one, hvli]; rfl
        walk_at "rd"
        refine ⟨d, cl, 3, ns, _, rfl, p11, by omega, by omega, by omega, fun y1 H12 y10 y11 k12 p12 => ?_⟩
        walk_at "rd"
        refine ⟨d, cl, 50, ns, _, rfl, p12, by omega, by omega, by omega, fun y2 H13 y20 y21 k13 p13 => ?_⟩
        walk_at "rd"
        walk_at "nw"
        rename_i q nq H14 s14 e14
        walk_at "rd"
        refine ⟨d, cl, 3, ns, _, rfl, p13.mono s14, by omega, by omega, by omega, fun y3 H15 y30 y31 k15 p15 => ?_⟩
        obtain ⟨v, hv, hvm⟩ := at_mod (xs := [V.int y1, V.int y2, V.int (10 ^ Int.toNat 30 - 1)]) y30 y31
        obtain ⟨pz, rfl, pz0, pz1⟩ : ∃ pz : Int, v = .int pz ∧ 0 ≤ pz ∧ pz ≤ 10 ^ Int.toNat 30 - 1 := by
          simp only [List.mem_cons, List.not_mem_nil, or_false] at hvm
          have e30 : (10 : Int) ^ Int.toNat 30 = 1000000000000000000000000000000 := by decide
          rcases hvm with rfl | rfl | rfl
          · exact ⟨_, rfl, y10, by rw [e30]; omega⟩
          · exact ⟨_, rfl, y20, by rw [e30]; omega⟩
          · exact ⟨_, rfl, by rw [e30]; decide, Int.le_refl _⟩
        have e30 : (10 : Int) ^ Int.toNat 30 = 1000000000000000000000000000000 := by decide
        rw [e30] at pz1
        have p14 := p13.mono s14
        refine x_ixL (by walk_at "hp") hv ?_
        have k16 : Kept d H11 H15 := by walk_at "hp"
        clear e14 s14 k12 k13 k15 p12 p13 p14 hv hvm
        walk_at "rd"
        rw [show (1 : Int) + pz = ((1 + pz.toNat : Nat) : Int) by omega]
        refine ⟨log_ok (k := 31) (by omega) (by decide) (by decide), ?_⟩
        have hsl := str_int_len (k := 31) (n := 1 + pz.toNat) (by decide) (by omega)
        have hpo := prOk_made (m := 1 + pz.toNat) (by omega) (by omega)
        generalize Str.ofString (toString ((1 + pz.toNat : Nat) : Int)) = pst at hsl hpo ⊢
        walk_at "rd"
        walk_at "nw"
        rename_i q2 nq2 H16 s16 e16
        have e11' : H15 wa = _ := k16.lst p11 e11
        have hlen2 : (vs.take j).length = ps.length := by rw [List.length_take]; omega
        have hle := (ev_pairs hlen2).2.2
        refine ⟨wa, q2, _, _, rfl, rfl, s16 _ _ e11', e16, by rw [List.length_map]; simp only [List.length_cons, List.length_nil]; omega, ?_⟩
        walk_at "nw"
        rename_i w2 nw2 H17 s17 e17
        walk_at "rd"
        refine ⟨w2, ps ++ [pst], _, rfl, by rw [List.length_append, List.length_singleton]; omega, fun q hq => (List.mem_append.mp hq).elim (hpr q) fun h => by rw [List.mem_singleton.mp h]; exact hpo, ?_, ((p15.mono s16).mono s17).le (by omega), ((k11.trans k16).trans (Kept.of s16)).trans (Kept.of s17)⟩
        rw [e17, htk, pairs_snoc hlen2]
        simp
      · rintro σ H11 ⟨wa, ps, x8, rfl, hps, hpr, e11, p11, k11⟩
        rw [List.length_map] at hps e11 p11
        rw [List.take_length] at e11
        replace M := M.kept k11 p7
        replace e5 := k11.lst p7 e5
        replace k5 := k5.trans k11
        clear k11 p7 e7 e10'
        have hpl : vs.length = ps.length := hps.symm
        have hW := pairs_bd hpl hvs.nm hpr
        have hW2 := hW.sum
        have hW3 := hW.n
        have hml2 := mode_len (m := nx) lnx hpl (by omega) hvs.nm hpr
        have l_b : ((" " : Str)).length = 1 := by decide +kernel
        walk_at "rd"
        refine ⟨x_tyL M.e3, ?_⟩
        walk_at "rd"
        refine ⟨_, rfl, rfl, Or.inl (SqL.of e11), by rw [l_b, List.map_cons, List.map_cons, List.sum_cons, List.sum_cons, List.length_cons, List.length_cons]; omega, ?_⟩
        walk_at "rd"
        refine x_appS (K := K) M.e3 (by omega) ?_
        have hnx' : nx ∉ ms.map (·.1) := by
          rw [hms]
          intro hm
          obtain ⟨j, hj⟩ := List.getElem?_of_mem hm
          have hji := (List.getElem?_eq_some_iff.mp hj).1
          rw [List.length_take] at hji
          rw [List.getElem?_take_of_lt (by omega)] at hj
          have := (List.getElem?_inj (i := j) (j := i) (by omega) hnm.nd).mp (hj.trans hnxi.symm)
          omega
        have R2 := R.modeL (m := nx) (vs := vs) (ps := ps) rfl nnx hnx' (by show ms.length < 6; omega) hpl (by omega) (by omega) hvs.nm hvs.nd fun q hq => ⟨(hpr q hq).pr, (hpr q hq).w⟩
        generalize Txt.join (" " : Str) (("mode" : Str) :: nx :: pairsL vs ps) = row at hml2 R2 ⊢
        have M2 := M.push3 row
        refine ⟨ts ++ [tp], ms ++ [(nx, vs)], ls ++ [row], _, _, _, _, rfl, M2, R2, ?_, ?_, by rw [List.length_append, List.length_singleton]; omega, by rw [mass_snoc]; omega, (upd_ne qn3).trans e5, (p11.off d3.1 d3.2).le (by omega), k5.new na3'⟩
        · rw [List.map_append, hms, List.take_add_one, hnxi]
          rfl
        · intro x hx
          rcases List.mem_append.mp hx with hx | hx
          · exact hmo x hx
          · rw [List.mem_singleton.mp hx]
            exact ⟨nnx, fun e => absurd (congrArg List.length (show vs = [] from e)) (by rw [hvl]; show 1 + y ≠ 0; omega), by show vs.length ≤ 4; omega, hvs.nm⟩
    · rintro σ H5 ⟨ts, ms, ls, x5, x6, x7, x8, rfl, M, R, hms, hmo, hl, hmass, e5, p5, k5⟩
      rw [List.length_map, hnm.len] at hl hmass p5
      rw [List.length_map, List.take_length] at hms
      clear e5 qn0 qn3 e4 p4
      have hmlen : ms.length = 1 + z := by have := congrArg List.length hms; rw [List.length_map, hnm.len] at this; exact this
      have hMO : ModesOk ms := ⟨by rw [hms]; exact hnm.nd, hmo, by omega⟩
      have htl : ts.length = ms.length := M.tu.len
      walk_at "rd"
      refine ⟨⟨_, SqL.of M.e0⟩, for_list (xs := ts.map V.ref) (fun i σ H' => Hold (∃ (ls : List Str) (st : List Str) (x5 x6 : Option V), σ = [some (V.ref d), some (V.int dp), some (V.int room), some (V.ref a0), some (V.ref a3), x5, x6, x7, x8, none, none, none] ∧ M1At H' a0 a3 ts ms ls ∧ Rds ls (LS0 ms st) ∧ (∀ s ∈ st, s ∈ (ms.take i).map (·.1)) ∧ 1 + z ≤ ls.length ∧ ls.length ≤ 1 + z + i ∧ massOf ls ≤ 301 * (1 + z) + 40 * i ∧ PenL H' d cl ns (n + 16 + 40 * (1 + z) + 2 * i) ∧ Kept d H H'))
        ⟨ls, [], x5, x6, rfl, M, R, (fun s h => by cases h), by omega, by omega, hmass, p5, k5⟩ (fun i σ H' _ ⟨_, _, _, _, _, A, _⟩ => SqL.of A.e0) ?_ ?_⟩
      · clear M R hl hmass p5 k5 k2
        rintro i x σ H6 hi ⟨ls, st, x5, x6, rfl, M, R, hst, hg, hl, hmass, p6, k6⟩
        obtain ⟨tp, _, htp, rfl⟩ := mem_at hi
        have hil := (List.getElem?_eq_some_iff.mp htp).1
        obtain ⟨md, va, hmd, etp, eva⟩ := M.tu.at_ htp
        have etp := (hide_get etp).2
        obtain ⟨nv, eva⟩ := hide_get eva
        obtain ⟨q1, q2, q3, q4⟩ := hmo md (List.mem_of_getElem? hmd)
        have lmd := name_len q1
        have htk : ms.take (i + 1) = ms.take i ++ [md] := by rw [List.take_add_one, hmd]; rfl
        refine x_gtup2 etp ?_
        walk_at "rd"
        refine ⟨d, cl, 3, ns, _, rfl, p6, by omega, by omega, by omega, fun y H7 y0 y1 k7 p7 => ?_⟩
        replace M := M.kept k7 p6
        replace eva := k7.lst p6 eva
        replace k6 := k6.trans k7
        clear p6 k7
        walk_at "rd"
        refine x_D (fun _ => ?_) (fun _ => ?_)
        · walk_at "rd"
          refine ⟨x_tyL M.e3, ?_⟩
          have l_s : (("start " : Str)).length = 6 := by decide +kernel
          have l_b : ((" " : Str)).length = 1 := by decide +kernel
          walk_at "rd"
          refine ⟨by omega, ?_⟩
          walk_at "rd"
          refine ⟨by rw [Str.length_append]; omega, ?_⟩
          walk_at "rd"
          refine ⟨d, cl, va, _, ns, _, rfl, p7, by omega, SqL.of eva, by rw [List.length_map]; exact List.length_pos_iff.mpr q2, by rw [List.length_map]; omega, fun v H8 hv k8 p8 => ?_⟩
          obtain ⟨vl, hvl, rfl⟩ := List.mem_map.mp hv
          have lvl := name_len (q4 vl hvl)
          replace M := M.kept k8 p7
          replace k6 := k6.trans k8
          refine ⟨_, _, rfl, rfl, by rw [Str.length_append, Str.length_append]; omega, ?_⟩
          walk_at "rd"
          refine x_appS (K := K) M.e3 (by omega) ?_
          have hnst : md.1 ∉ st := fun hm => by
            have h1 := hst _ hm
            have h2 : ((ms.take (i + 1)).map (·.1)).Nodup := by
              rw [List.map_take, hms]
              exact hnm.nd.sublist (List.take_sublist _ _)
            rw [htk, List.map_append] at h2
            exact (List.nodup_append.mp h2).2.2 _ h1 _ (by simp) rfl
          have hrl : ((("start " : Str) ++ md.1 ++ (" " : Str)) ++ vl).length ≤ 32 := by rw [Str.length_append, Str.length_append, Str.length_append]; omega
          have R2 := R.startL (m := md.1) (v := vl) rfl q1 (q4 vl hvl) (look_ofmem (hms ▸ hnm.nd) md (List.mem_of_getElem? hmd)) hvl hnst
          generalize ((("start " : Str) ++ md.1 ++ (" " : Str)) ++ vl) = row at hrl R2 ⊢
          have M2 := M.push3 row
          refine ⟨ls ++ [row], st ++ [md.1], _, _, rfl, M2, R2, fun s hs => ?_, by rw [List.length_append, List.length_singleton]; omega, by rw [List.length_append, List.length_singleton]; omega, by rw [mass_snoc]; omega, (p8.off d3.1 d3.2).le (by omega), k6.new na3'⟩
          rw [htk, List.map_append]
          rcases List.mem_append.mp hs with hs | hs
          · exact List.mem_append_left _ (hst s hs)
          · rw [List.mem_singleton.mp hs]
            exact List.mem_append_right _ (by simp)
        · walk_at "rd"
          exact ⟨ls, st, _, _, rfl, M, R, fun s hs => by rw [htk, List.map_append]; exact List.mem_append_left _ (hst s hs), hg, by omega, by omega, p7.le (by omega), k6⟩
      · clear M R hl hmass p5 k5 k2
        rintro σ H6 ⟨ls, st, x5, x6, rfl, M, R, hst, hg, hl, hmass, p6, k6⟩
        rw [List.length_map, htl, hmlen] at hl hmass p6
        walk_at "rd"
        refine ⟨d, cl, 4, ns, _, rfl, p6, by omega, by omega, by omega, fun y H7 y0 y1 k7 p7 => ?_⟩
        obtain ⟨y, rfl⟩ : ∃ k : Nat, y = k := ⟨y.toNat, by omega⟩
        replace M := M.kept k7 p6
        replace k6 := k6.trans k7
        clear p6 k7
        walk_at "rd"
        refine ⟨d, cl, y, ns, _, rfl, p7, by omega, by omega, fun qo H8 os hos k8 nqo p8 e8 => ?_⟩
        replace M := M.kept k8 p7
        replace k6 := k6.trans k8
        have hol := hos.len
        refine ⟨qo, rfl, ⟨_, SqL.of e8⟩, fun D2 nD2 => ?_⟩
        refine lc_pure (K := K) (fV fun z => !decide (z = ("main" : Str))) id (SqL.of e8) nD2 (by rw [List.length_map]; omega) (fun x H' acc R hx hs hacc hln h1 h2 => ?_) ?_
        · obtain ⟨y, hy, rfl⟩ := List.mem_map.mp hx
          walk_at "rd"
          refine x_ND (fun h => ?_) (fun h => ?_)
          · walk_at "rd"
            exact h1 (by show (!decide (y = ("main" : Str))) = true; rw [decide_eq_false fun e => h (by rw [e])]; rfl)
          · exact h2 (by show (!decide (y = ("main" : Str))) = false; rw [decide_eq_true (V.str.inj h)]; rfl)
        rw [List.map_id, fV_filter]
        have hoth : (os.filter fun z => !decide (z = ("main" : Str))).length ≤ 3 := Nat.le_trans (List.length_filter_le _ _) (by omega)
        have hotn : ∀ z ∈ (os.filter fun z => !decide (z = ("main" : Str))), isName z = true ∧ z ≠ ("main" : Str) := fun z hz => ⟨hos.nm z (List.mem_filter.mp hz).1, by simpa using (List.mem_filter.mp hz).2⟩
        have hotd : (os.filter fun z => !decide (z = ("main" : Str))).Nodup := hos.nd.filter _
        generalize (os.filter fun z => !decide (z = ("main" : Str))) = ot at hoth hotn hotd ⊢
        have e9 : upd H8 D2 (.lst (ot.map V.str)) D2 = _ := upd_same
        have s9 := same_upd (o := .lst (ot.map V.str)) nD2
        have n20 : D2 ≠ a0 := (ne_of_none M.e0 nD2).symm
        have n23 : D2 ≠ a3 := (ne_of_none M.e3 nD2).symm
        replace M := M.same s9
        replace k6 := k6.trans (Kept.of s9)
        replace p8 := p8.mono s9
        clear e8 k8 nqo
        show tSeq _ _ _ _ (upd H8 D2 (.lst (ot.map V.str)))
        generalize upd H8 D2 (.lst (ot.map V.str)) = H9 at e9 M k6 p8 ⊢
        clear s9 nD2
        walk_at "rd"
        intro m nm0
        have nmd := p8.ne nm0
        have mH : H m = none := k6.free nm0 nmd.1
        have k10 : Kept d H (upd H9 m (.dK [])) := k6.trans (Kept.of (same_upd nm0))
        have M10 := M.same (same_upd (o := .dK []) nm0)
        have p10 := p8.mono (same_upd (o := .dK []) nm0)
        have e10 := (same_upd (o := .dK []) nm0) _ _ e9
        have em : upd H9 m (.dK []) m = _ := upd_same
        have m0 : m ≠ a0 := (ne_of_none M.e0 nm0).symm
        have m3 : m ≠ a3 := (ne_of_none M.e3 nm0).symm
        clear M k6 p8 e9
        walk_at "rd"
        generalize upd H9 m (.dK []) = H10 at k10 M10 p10 e10 em ⊢
        refine ⟨d, cl, 3, ns, _, rfl, p10, by omega, by omega, fun qw H11 wo hwo k11 nqw p11 e11 => ?_⟩
        have em11 : H11 m = _ := k11 _ _ em nmd.1
        have e12 : H11 D2 = _ := k11.lst p10 e10
        have M11 := M10.kept k11 p10
        have nqm : qw ≠ m := (ne_of_none em nqw).symm
        have nq3 : qw ≠ a3 := (ne_of_none M10.e3 nqw).symm
        have k12 := k10.trans k11
        clear em e10 M10 k10 k11 p10
        have em11h : Hold (H11 m = some (.dK [])) := ⟨em11⟩
        clear em11
        walk_at "rd"
        have em11 := em11h.h
        refine ⟨em11, [(Sum.inr "modes", .ref a0), (Sum.inr "works", .ref qw), (Sum.inr "called", .ref D2), (Sum.inr "lines", .ref a3), (Sum.inr "room", .int room)], rfl, by show 5 ≤ 15; decide, ?_⟩
        have hmerge : mergeK [] [(Sum.inr ("modes" : Str), .ref a0), (Sum.inr ("works" : Str), .ref qw), (Sum.inr ("called" : Str), .ref D2), (Sum.inr ("lines" : Str), .ref a3), (Sum.inr ("room" : Str), .int room)] = mdK a0 qw D2 a3 room := by kernel_rfl
        rw [hmerge]
        have hwl := hwo.len
        -- the generator's own things
        have Md : MdAt (hide [m, a3] (upd H11 m (.dK (mdK a0 qw D2 a3 room)))) ⟨d, cl, m, a0, qw, D2, a3, ns, ts, ms, wo, ot⟩ (n + 16 + 40 * (1 + z) + 2 * (1 + z) + 1 + 15 + 15) (upd H11 m (.dK (mdK a0 qw D2 a3 room))) ls room (n + 16 + 40 * (1 + z) + 2 * (1 + z) + 1 + 15 + 15) := by
          have hu : ∀ b o, H11 b = some o → b ≠ m → b ≠ a3 → hide [m, a3] (upd H11 m (.dK (mdK a0 qw D2 a3 room))) b = some o := fun b o e h1 h2 => hide_at (by rw [upd_ne h1]; exact e) (by simp [h1, h2])
          have pm := p11.off (o := .dK (mdK a0 qw D2 a3 room)) nmd.1 nmd.2
          refine ⟨fun b o e n => (hide_get e).2, ?_, hide_no (by simp), hide_no (by simp), m3, hu _ _ M11.e0 (Ne.symm m0) n03, ?_, hu _ _ e11 nqm nq3, hu _ _ e12 ?_ n23, upd_same, by rw [upd_ne (Ne.symm m3)]; exact M11.e3, pm⟩
          · obtain ⟨x, y, q, hx⟩ := pm
            exact ⟨x, y, ⟨hide_at q.dc (by simp [Ne.symm nmd.1, Ne.symm d3.1]), hide_at q.cl (by simp [Ne.symm nmd.2, Ne.symm d3.2]), q.na, q.nb, q.len⟩, hx⟩
          · refine M11.tu.mono (fun b xs e => ?_) fun b xs e => ?_
            · obtain ⟨h1, h2⟩ := hide_get e
              simp only [List.mem_cons, List.not_mem_nil, or_false, not_or] at h1
              exact hu _ _ h2 (ne_of h2 em11 fun z => by cases z) h1.2
            · obtain ⟨h1, h2⟩ := hide_get e
              simp only [List.mem_cons, List.not_mem_nil, or_false, not_or] at h1
              exact hu _ _ h2 (ne_of h2 em11 fun z => by cases z) h1.2
          · exact ne_of e12 em11 fun z => by cases z
        have k13 : Kept d H (upd H11 m (.dK (mdK a0 qw D2 a3 room))) := k12.new mH
        generalize hide [m, a3] (upd H11 m (.dK (mdK a0 qw D2 a3 room))) = Hb at Md
        have GO : GpOk ⟨d, cl, m, a0, qw, D2, a3, ns, ts, ms, wo, ot⟩ := ⟨hMO, by show 0 < wo.length; omega, by show wo.length ≤ 12; omega, hwo.nm, by show ot.length ≤ 12; omega, hotn⟩
        generalize upd H11 m (.dK (mdK a0 qw D2 a3 room)) = H12 at Md k13 ⊢
        clear em11 e12 M11 k12 p11 e11 nqw
        walk_at "rd"
        refine ⟨Or.inl (SqL.of Md.g2), ?_⟩
        rw [List.length_map]
        walk_at "rd"
        refine ⟨d, cl, ((ot.length : Nat) : Int) + 1, ns, _, rfl, Md.pn, by omega, by omega, by omega, fun y3 H13 y30 y31 k14 p14 => ?_⟩
        obtain ⟨y3, rfl⟩ : ∃ k : Nat, y3 = k := ⟨y3.toNat, by omega⟩
        replace Md := Md.draw k14 p14
        replace k13 := k13.trans k14
        clear k14 p14
        walk_at "rd"
        refine x_slL (SqL.of Md.g2) ?_
        walk_at "nw"
        rename_i q1 nq1 H14 s14 e14
        rw [cutV_toG, ← List.map_take] at e14
        replace Md := Md.same s14
        replace k13 := k13.trans (Kept.of s14)
        clear s14 nq1
        walk_at "rd"
        walk_at "nw"
        rename_i q2 nq2 H15 s15 e15
        replace Md := Md.same s15
        replace k13 := k13.trans (Kept.of s15)
        refine ⟨q1, q2, _, _, rfl, rfl, s15 _ _ e14, e15, by rw [List.length_map, List.length_take]; simp only [List.length_cons, List.length_nil]; omega, ?_⟩
        walk_at "nw"
        rename_i q3 nq3 H16 s16 e16
        replace Md := Md.same s16
        replace k13 := k13.trans (Kept.of s16)
        clear s15 nq2 nq3 e14 e15 s16
        walk_at "rd"
        refine x_slL (SqL.of Md.g2) ?_
        walk_at "nw"
        rename_i q4 nq4 H17 s17 e17
        rw [cutV_from, ← List.map_drop] at e17
        replace Md := Md.same s17
        replace k13 := k13.trans (Kept.of s17)
        refine ⟨q3, q4, _, _, rfl, rfl, s17 _ _ e16, e17, by simp only [List.length_append, List.length_map, List.length_take, List.length_drop, List.length_cons, List.length_nil]; omega, ?_⟩
        walk_at "nw"
        rename_i fq nfq H18 s18 e18
        have fqn := Md.fresh nfq
        replace Md := (Md.same s18).reb
        replace k13 := k13.trans (Kept.of s18)
        clear s17 nq4 e16 e17 s18
        obtain ⟨pl, pd, pn, pm, ps⟩ := procs_ok (y := y3) hoth hotn hotd
        have e18' : H18 fq = some (.lst ((ot.take y3 ++ [("main" : Str)] ++ ot.drop y3).map V.str)) := by rw [e18, List.map_append, List.map_append]; rfl
        have eHb : hide [m, a3] H18 fq = some (.lst ((ot.take y3 ++ [("main" : Str)] ++ ot.drop y3).map V.str)) := hide_at e18' (by simp [fqn.2.1, fqn.2.2])
        have kHb : Kept d H (hide [m, a3] H18) := fun b o e n => hide_at (k13 _ _ e n) (by simp [ne_of_none e mH, ne_of_none e na3'])
        generalize (ot.take y3 ++ [("main" : Str)] ++ ot.drop y3) = prs at pl pd pn pm ps eHb e18'
        generalize hide [m, a3] H18 = Hb2 at Md eHb kHb
        clear k13 e18 nfq
        generalize hN0 : n + 16 + 40 * (1 + z) + 2 * (1 + z) + 1 + 15 + 15 + 1 = N0 at Md
        walk_at "rd"
        refine ⟨⟨_, SqL.of e18'⟩, for_list (xs := prs.map V.str) (fun i σ H' => Hold (∃ (ls' : List Str) (room' : Int) (n' : Nat) (S' : LS) (x5 : Option V), σ = [some (V.ref d), some (V.int dp), some (V.int room), some (V.ref a0), some (V.ref a3), x5, x6, x7, x8, some (V.ref D2), some (V.ref m), some (V.int y3)] ∧ MdAt Hb2 ⟨d, cl, m, a0, qw, D2, a3, ns, ts, ms, wo, ot⟩ N0 H' ls' room' n' ∧ Rds ls' S' ∧ S'.modes = ms ∧ S'.procs = prs.take i ∧ S'.stack = [] ∧ (∀ c ∈ S'.called, c ∈ ot) ∧ 0 ≤ room' ∧ room' ≤ room ∧ (ls'.length : Int) + 2 * room' ≤ 2 * (1 + z) + 2 * room + 3 * i ∧ (massOf ls' : Int) + 110 * room' ≤ 341 * (1 + z) + 110 * room + 117 * i ∧ (n' : Int) + 30 * room' ≤ N0 + 30 * room + 30 * i ∧ 1 + 2 * i ≤ ls'.length))
          ⟨ls, room, N0, LS0 ms st, x5, rfl, Md, R, rfl, rfl, rfl, (fun c h => by cases h), hr0, Int.le_refl _, by omega, by omega, by omega, by omega⟩ (fun i σ H' _ ⟨_, _, _, _, _, _, A, _⟩ => SqL.of (A.kp.lst A.pb eHb)) ?_ ?_⟩
        · clear Md R hst hl hmass e18'
          rintro i x σ H19 hi ⟨ls, room2, n2, S, x5, rfl, Md, R, q1, q2, q3, q4, q5, q6, q7, q8, q9, q10⟩
          obtain ⟨pnm, hpnm, hpi, rfl⟩ := mem_at hi
          have npn := pn pnm hpnm
          have lpn := name_len npn
          have hil := (List.getElem?_eq_some_iff.mp hpi).1
          have htk : prs.take (i + 1) = prs.take i ++ [pnm] := by rw [List.take_add_one, hpi]; rfl
          have l_p : (("proc " : Str)).length = 5 := by decide +kernel
          walk_at "rd"
          refine ⟨m, _, rfl, Md.d3, ?_⟩
          refine ⟨x_tyL Md.li, ?_⟩
          walk_at "rd"
          refine ⟨by omega, ?_⟩
          walk_at "rd"
          refine x_appS (K := K) Md.li (by omega) ?_
          replace Md := Md.push (("proc " : Str) ++ pnm)
          have hnp : pnm ∉ S.procs := by
            rw [q2]
            intro hm
            obtain ⟨j, hj⟩ := List.getElem?_of_mem hm
            have hji := (List.getElem?_eq_some_iff.mp hj).1
            rw [List.length_take] at hji
            rw [List.getElem?_take_of_lt (by omega)] at hj
            have := (List.getElem?_inj (i := j) (j := i) (by omega) pd).mp (hj.trans hpi.symm)
            omega
          replace R := R.procL q3 npn hnp (by rw [q2, List.length_take]; omega)
          have hrl : (("proc " : Str) ++ pnm).length ≤ 17 := by rw [Str.length_append]; omega
          generalize ("proc " : Str) ++ pnm = row at Md R hrl ⊢
          generalize upd H19 _ (.lst ((ls ++ [row]).map V.str)) = H20 at Md ⊢
          walk_at "rd"
          have hS2 : ({ S with procs := S.procs ++ [pnm], stack := [("proc" : Str)] } : LS).modes = ms := q1
          refine ⟨Hb2, _, N0, ls ++ [row], room2, n2, _, false, rfl, Md, GO, R, ⟨q1, by simp, by show 1 + dp ≤ 9; omega, fun z => (by cases z), by omega, by rw [List.length_append, List.length_singleton]; omega⟩, by omega, by omega, fun H21 ls3 room3 n3 S3 Md3 R3 Gr => ?_⟩
          clear Md R
          have g1 := Gr.mo
          have g2 := Gr.pr
          have g3 := Gr.sk
          have g4 := Gr.ca
          have g5 := Gr.r0
          have g6 := Gr.r1
          have g7 := Gr.len
          have g8 := Gr.mass
          have g9 := Gr.pn
          have g10 := Gr.ln
          rw [List.length_append, List.length_singleton] at g7 g10
          rw [mass_snoc] at g8
          replace g1 : S3.modes = ms := g1.trans q1
          replace g2 : S3.procs = S.procs ++ [pnm] := g2
          replace g3 : S3.stack = [("proc" : Str)] := g3
          replace g4 : ∀ c ∈ S3.called, c ∈ ot := fun c hc => (g4 c hc).elim (fun h => q4 c h) fun h => h
          clear Gr hS2
          walk_at "rd"
          refine ⟨fun σ' H' => ∃ (ls4 : List Str) (n4 : Nat), σ' = [some (V.ref d), some (V.int dp), some (V.int room), some (V.ref a0), some (V.ref a3), some (V.str pnm), x6, x7, x8, some (V.ref D2), some (V.ref m), some (V.int y3)] ∧ MdAt Hb2 ⟨d, cl, m, a0, qw, D2, a3, ns, ts, ms, wo, ot⟩ N0 H' ls4 room3 n4 ∧ Rds ls4 S3 ∧ ls3.length ≤ ls4.length ∧ (ls4.length : Int) ≤ ls3.length + 1 ∧ (massOf ls4 : Int) ≤ massOf ls3 + 95 ∧ n4 ≤ n3 + 21, ?_, ?_⟩
          · with_reducible refine x_ifP (fun b H' => ∃ n4 : Nat, MdAt Hb2 ⟨d, cl, m, a0, qw, D2, a3, ns, ts, ms, wo, ot⟩ N0 H' ls3 room3 n4 ∧ n4 ≤ n3 + 1) (fun Rt hR => ?_) (fun H22 hp => ?_) (fun H22 hp => ?_)
            · walk_at "rd"
              refine x_D (fun _ => ?_) (fun _ => ?_)
              · exact hR _ _ ⟨n3, Md3, by omega⟩
              · walk_at "rd"
                refine ⟨d, cl, 3, ns, _, rfl, Md3.pn, by omega, by omega, by omega, fun y4 H22 y40 y41 k22 p22 => ?_⟩
                walk_at "rd"
                exact hR _ _ ⟨n3 + 1, Md3.draw k22 p22, Nat.le_refl _⟩
            · obtain ⟨n4, Md4, h4⟩ := hp
              walk_at "rd"
              refine ⟨m, _, rfl, Md4.d3, ?_⟩
              refine ⟨x_tyL Md4.li, ?_⟩
              walk_at "rd"
              refine ⟨Hb2, _, N0, ls3, room3, n4, rfl, Md4, GO, by omega, fun zz H23 dz Md5 => ?_⟩
              walk_at "rd"
              refine x_appS (K := K) Md5.li (by omega) ?_
              have dl := dz.len
              exact ⟨ls3 ++ [zz], _, rfl, Md5.push zz, R3.doL (by rw [g3]; simp) g1 dz, by rw [List.length_append]; omega, by rw [List.length_append, List.length_singleton]; omega, by rw [mass_snoc]; omega, by omega⟩
            · obtain ⟨n4, Md4, h4⟩ := hp
              walk_at "rd"
              exact ⟨ls3, n4, rfl, Md4, R3, Nat.le_refl _, by omega, by omega, by omega⟩
          · rintro σ' H22 ⟨ls4, n4, rfl, Md4, R4, v0, v1, v2, v3⟩
            walk_at "rd"
            refine ⟨m, _, rfl, Md4.d3, ?_⟩
            refine ⟨x_tyL Md4.li, ?_⟩
            walk_at "rd"
            refine x_appS (K := K) Md4.li (by omega) ?_
            have R5 := R4.endL (by rw [g3]; simp)
            have l_end : (("end" : Str)).length = 3 := by decide +kernel
            refine ⟨ls4 ++ [("end" : Str)], room3, n4, _, _, rfl, Md4.push _, R5, g1, by show S3.procs = _; rw [g2, q2, htk], by show S3.stack.dropLast = []; rw [g3]; rfl, g4, g5, by omega, by rw [List.length_append, List.length_singleton]; omega, by rw [mass_snoc]; omega, by omega, by rw [List.length_append, List.length_singleton]; omega⟩
        · rintro σ H19 ⟨ls', room2, n2, S, x5, rfl, Md2, R2, q1, q2, q3, q4, q5, q6, q7, q8, q9, q10⟩
          rw [List.length_map] at q2 q7 q8 q9 q10
          rw [List.take_length] at q2
          have hp0 : 0 < prs.length := List.length_pos_of_mem pm
          walk_at "rd"
          refine ⟨m, _, rfl, Md2.d3, ?_⟩
          refine k a3 H19 ls' S n2 ⟨R2, ⟨q3, by rw [q2]; exact pm, fun c hc => by rw [q2]; exact ps c (q4 c hc)⟩, by omega, by omega, by omega, fun e => absurd (congrArg List.length (q1.symm.trans e)) (by rw [hmlen]; show 1 + z ≠ 0; omega), by rw [q1]; exact hMO⟩ (kHb.trans Md2.kp) na3' Md2.pn (by omega) Md2.li
end
end MP
end
section
open PySem L2 MPX MP
local macro_rules | `(tactic| walk_at "rd1") => `(tactic| first
  | with_reducible refine x_seq ?_
  | with_reducible refine x_next ?_
  | with_reducible refine x_ret ?_
  | with_reducible refine x_retN ?_
  | with_reducible refine x_ifs ?_
  | with_reducible refine x_asg ?_
  | with_reducible refine x_drop ?_
  | with_reducible refine x_name ?_
  | ((with_reducible refine' x_var ?vv ?_); (case vv => exact rfl))
  | with_reducible refine x_c ?_
  | with_reducible refine x_op ?_
  | with_reducible refine x_un ?_
  | with_reducible refine x_test ?_
  | with_reducible refine x_tB ?_
  | with_reducible refine x_and ?_
  | with_reducible refine x_or ?_
  | with_reducible refine x_not ?_
  | with_reducible refine x_andV ?_
  | with_reducible refine x_orV ?_
  | with_reducible refine x_notV ?_
  | with_reducible refine x_if ?_
  | with_reducible refine x_nil ?_
  | with_reducible refine x_cons ?_
  | with_reducible refine x_tup ?_
  | with_reducible refine x_lst ?_
  | with_reducible refine x_cb ?_
  | with_reducible refine x_call ?_
  | with_reducible refine x_callS ?_
  | with_reducible refine x_callP ?_
  | with_reducible refine x_mk0 ?_
  | with_reducible refine x_mk1 ?_
  | with_reducible refine x_mk2 ?_
  | with_reducible refine x_make ?_
  | with_reducible refine x_sfld ?_
  | with_reducible refine x_m0 ?_
  | with_reducible refine x_m1 ?_
  | with_reducible refine x_bm0 ?_
  | with_reducible refine x_bm ?_
  | with_reducible refine x_par ?_
  | with_reducible refine x_ilist ?_
  | with_reducible refine x_itup ?_
  | with_reducible refine x_istr ?_
  | ((with_reducible show tLc _ _ _ _ _ _ _ _); unfold tLc)
  | ((with_reducible show tFor _ _ _ _ _ _); unfold tFor)
  | ((with_reducible refine' x_eq ?vv ?_); (case vv => exact rfl))
  | ((with_reducible refine' x_ne ?vv ?_); (case vv => exact rfl))
  | with_reducible refine x_rI0 ?_
  | with_reducible refine x_dget ?_
  | with_reducible refine x_dput ?_
  | with_reducible refine x_dnew ?_
  | with_reducible refine x_dget1 ?_
  | with_reducible refine x_dget2 ?_
  | with_reducible refine x_sl ?_
  | with_reducible refine x_nopart ?_
  | with_reducible refine x_part ?_
  | ((with_reducible refine' x_slL ?vv ?_); (case vv => (with_reducible assumption)))
  | with_reducible refine x_disp ?_
  | with_reducible refine x_pcons ?_
  | with_reducible refine x_pnil ?_
  | ((with_reducible refine' x_mod ?vv ?_); (case vv => omega); intro r er hr0 hr1; (try clear er))
  | ((with_reducible refine' x_rI ?vv ?_); (case vv => walk_at "sc"))
  | (with_reducible refine Or.inl (Exists.intro _ (And.intro rfl ?_)))
  | with_reducible refine x_T ?_
  | with_reducible refine x_F ?_
  | ((with_reducible show Exists (α := V) _); (with_reducible apply Exists.intro))
  | ((with_reducible show Exists (α := Bool) _); (with_reducible apply Exists.intro))
  | ((with_reducible show Exists (α := Nat) _); (with_reducible apply Exists.intro))
  | ((with_reducible show Exists (α := Int) _); (with_reducible apply Exists.intro))
  | ((with_reducible show Exists (α := List V) _); (with_reducible apply Exists.intro))
  | ((with_reducible show Exists (α := PySem.Str) _); (with_reducible apply Exists.intro))
  | ((with_reducible show Exists (α := Option V) _); (with_reducible apply Exists.intro))
  | ((with_reducible show Exists (α := Option Int) _); (with_reducible apply Exists.intro))
  | ((with_reducible show Exists (α := List (Key × V)) _); (with_reducible apply Exists.intro))
  | refine And.intro rfl ?_
  | ((with_reducible refine And.intro ?vv ?_); (case vv => (first | (with_reducible assumption) | (show _ ≤ sizeLine; decide) | exact len_ok rfl)))
  | (refine And.intro (Exists.intro _ rfl) ?_))
local macro_rules | `(tactic| walk_at "sc") => `(tactic| first
  | (with_reducible assumption)
  | exact divW (by omega) (by omega)
  | exact mulW (by omega) (by omega)
  | exact Or.inl ⟨by omega, by omega⟩
  | exact Or.inr ⟨by omega, by omega⟩
  | (show (_ : Int) ≠ 0; omega)
  | exact ⟨by decide, by decide, by decide⟩
  | decide)
local macro_rules | `(tactic| walk_at "rd") => `(tactic| repeat walk_at "rd1")
namespace MP
open PySem L2 MPX
section
variable {P : Program} {w : World} {K : PySem.W.Frag} {mg : Str → Option Value} {base : Heap}
abbrev s__law_is_name : Stmt := topS 52
abbrev N__law_is_name : List Str := ["_law_word_here", "_law_barred", "_law_c"]
abbrev P__law_is_name : List Str := ["_law_word_here"]
theorem sc__law_is_name : FnScope N__law_is_name P__law_is_name (defScope s__law_is_name) := ⟨rfl, rfl, rfl, by decide +kernel, rfl, by decide +kernel, by decide +kernel⟩
abbrev s__law_is_price : Stmt := topS 53
abbrev N__law_is_price : List Str := ["_law_word_here", "_law_c"]
abbrev P__law_is_price : List Str := ["_law_word_here"]
theorem sc__law_is_price : FnScope N__law_is_price P__law_is_price (defScope s__law_is_price) := ⟨rfl, rfl, rfl, by decide +kernel, rfl, by decide +kernel, by decide +kernel⟩
structure LwT (mg : Str → Option Value) : Prop where
  b_len : mg "len" = none
  b_int : mg "int" = none
  b_set : mg "set" = none
  b_range : mg "range" = none
def sp_l_name : Sp := fun vs H Q _ => ∃ z : Str, vs = [.str z] ∧ z.length ≤ 10000 ∧ ∀ H', Same H H' → Q (.bl (isName z)) H'
theorem made_filter (z s : Str) : (z.cps.toList.filter fun c => !decide (c ∈ s.cps.toList)).isEmpty = madeOf z s := by
  unfold madeOf
  induction z.cps.toList with
  | nil => rfl
  | cons x r ih =>
    rw [List.filter_cons, List.all_cons]
    cases decide (x ∈ s.cps.toList) with
    | true => rw [if_neg (by decide), ih]; rfl
    | false => rw [if_pos (show (!false) = true from rfl)]; rfl
theorem ok_l_name {f : Addr} {fd : FuncData} (F : Fun K "_law_is_name" "_law_is_name" s__law_is_name f fd) (T : LwT mg) : FnOk P w K mg base CX0 1 f fd P__law_is_name sp_l_name := by
  refine F.ok sc__law_is_name (fun vs H Q E h => ?_) (fun cdv A outer s H vs Q E hr h => ?_)
  · obtain ⟨z, rfl, _⟩ := h
    rfl
  · obtain ⟨z, rfl, hz, k⟩ := h
    have hu := hu_of hr
    refine ⟨_, (pss_cons (ps_set (i := 1) sc__law_is_name.nd rfl (Or.inl rfl) (pe_lst (pa_cons pe_str (pa_cons pe_str (pa_cons pe_str (pa_cons pe_str (pa_cons pe_str (pa_cons pe_str (pa_cons pe_str (pa_cons pe_str (pa_cons pe_str (pa_cons pe_str (pa_cons pe_str (pa_cons pe_str pa_nil))))))))))))))
      (pss_cons (ps_set (i := 1) sc__law_is_name.nd rfl (Or.inl rfl) (pe_op op_cat (pv 1) (pe_lst (pa_cons pe_str (pa_cons pe_str pa_nil)))))
      (pss_cons (ps_if (PW.pt (pw_or (pt_cmpR op_eq (pv 0) pe_str (nomark _)) (pw_or (pt_cmpR op_gt (pe_callB call_len_str (by rfl) T.b_len (by decide +kernel) (pa_cons (pv 0) pa_nil)) pe_int (nomark _)) (pw_or1 (pt_cmpR op_in_seq (pv 0) (pv 1) rfl))))) (pss_one (ps_ret pe_bl)) pss_nil)
      (pss_one (ps_ret (pe_cmpR (op_eqE hr.units) (pe_lc (own := [("_law_c", 2)]) (g := gName 2) rfl sc__law_is_name.nd (pi_str (pv 0)) (blkOk_by (own := [("_law_c", 2)]) (N := N__law_is_name) (sc := defScope s__law_is_name) (by decide +kernel)) (fun _ _ _ _ _ => (pg_name (i := 2) sc__law_is_name.nd rfl (Or.inl rfl))) (fun _ _ _ _ _ => (pts_one (pt_cmpR op_notIn_sign (pv 2) pe_str rfl))) (fun _ _ _ _ _ => (pv 2))) (pe_lst pa_nil) (nomark _))))))), ?_⟩
    show tSeq _ _ _ [some (V.str z), none, none] H
    walk_at "rd"
    intro a na
    have s1 := same_upd (o := .lst [.str "mode", .str "start", .str "proc", .str "do", .str "either", .str "or", .str "end", .str "loop", .str "ever", .str "leave", .str "back", .str "stop"]) na
    have e1 : upd H a (.lst [.str "mode", .str "start", .str "proc", .str "do", .str "either", .str "or", .str "end", .str "loop", .str "ever", .str "leave", .str "back", .str "stop"]) a = _ := upd_same
    generalize upd H a _ = H1 at s1 e1 ⊢
    walk_at "rd"
    intro b nb
    have s2 := same_upd (o := .lst [.str "call", .str "set"]) nb
    have e2 : upd H1 b (.lst [.str "call", .str "set"]) b = _ := upd_same
    replace s1 := s1.trans s2
    replace e1 := s2 _ _ e1
    clear s2
    generalize upd H1 b _ = H2 at s1 e1 e2 ⊢
    refine ⟨a, b, _, _, rfl, rfl, e1, e2, by simp [sizeLine_eq], fun c nc => ?_⟩
    have s3 := same_upd (o := .lst (keyW.map V.str)) nc
    have e3 : upd H2 c (.lst (keyW.map V.str)) c = _ := upd_same
    show tSeq _ _ _ _ (upd H2 c (.lst (keyW.map V.str)))
    replace s1 := s1.trans s3
    clear s3 e1 e2
    generalize upd H2 c _ = H3 at s1 e3 ⊢
    have hz2 : z.length ≤ sizeLine := Nat.le_trans hz (by decide)
    walk_at "rd"
    refine x_D (fun h1 => ?_) (fun h1 => ?_)
    · walk_at "rd"
      have e : isName z = false := by
        unfold isName
        rw [decide_eq_true (V.str.inj h1)]
        rfl
      rw [← e]
      exact k _ s1
    walk_at "rd"
    refine x_D (fun h2 => ?_) (fun h2 => ?_)
    · walk_at "rd"
      have e : isName z = false := by
        unfold isName
        rw [decide_eq_true (show 12 < z.length by omega)]
        simp
      rw [← e]
      exact k _ s1
    walk_at "rd"
    refine x_inS (SqL.of e3) ?_
    walk_at "rd"
    refine x_D (fun h3 => ?_) (fun h3 => ?_)
    · walk_at "rd"
      have e : isName z = false := by
        unfold isName
        rw [decide_eq_true h3]
        simp
      rw [← e]
      exact k _ s1
    have e : isName z = madeOf z lettersS := by
      unfold isName
      rw [decide_eq_false (fun e => h1 (by rw [e])), decide_eq_false (show ¬ 12 < z.length by omega), decide_eq_false h3]
      rfl
    walk_at "rd"
    intro D nD
    refine lc_it walk_str (fun i H' => Hold (H' = upd H3 D (.lst (((z.cps.toList.take i).filter fun c => !decide (c ∈ lettersS.cps.toList)).map fun c => V.str ⟨#[c]⟩)))) ⟨rfl⟩ (fun _ _ _ _ => trivial) ?_ ?_
    · rintro i v H' H'' hi ⟨rfl⟩ ⟨rfl, c, hc, rfl⟩
      have hc2 : z.cps.toList[i]? = some c := by simpa using hc
      walk_at "rd"
      refine x_NB (fun h => ?_) (fun h => ?_)
      · replace h : decide (c ∈ lettersS.cps.toList) = false := h
        walk_at "rd"
        refine ⟨upd_same, ?_, ⟨?_⟩⟩
        · rw [List.length_map]
          have h1 := List.length_filter_le (fun c => !decide (c ∈ lettersS.cps.toList)) (z.cps.toList.take i)
          rw [List.length_take] at h1
          have h2 : z.cps.toList.length = z.length := by simp [Str.length]
          have := big5
          omega
        · rw [upd_upd, List.take_add_one, hc2, List.filter_append, List.map_append]
          congr 3
          show _ = ([c].filter _).map _
          rw [List.filter_cons_of_pos (by rw [h]; rfl)]
          rfl
      · replace h : decide (c ∈ lettersS.cps.toList) = true := h
        refine ⟨?_⟩
        rw [List.take_add_one, hc2, List.filter_append]
        show upd H3 D _ = upd H3 D (.lst ((_ ++ ([c].filter _)).map _))
        rw [List.filter_cons_of_neg (by rw [h]; decide)]
        simp
    · rintro H' ⟨rfl⟩
      rw [List.take_of_length_le (by simp)]
      have sD := same_upd (o := .lst ((z.cps.toList.filter fun c => !decide (c ∈ lettersS.cps.toList)).map fun c => V.str ⟨#[c]⟩)) nD
      have eD : upd H3 D (.lst ((z.cps.toList.filter fun c => !decide (c ∈ lettersS.cps.toList)).map fun c => V.str ⟨#[c]⟩)) D = _ := upd_same
      generalize upd H3 D _ = H4 at sD eD ⊢
      walk_at "rd"
      intro q nq
      have sq := same_upd (o := .lst []) nq
      refine x_eqE (SqL.of (sq _ _ eD)) upd_same ?_
      rw [List.isEmpty_map, made_filter, ← e]
      exact k _ ((s1.trans sD).trans sq)
def sp_l_price : Sp := fun vs H Q _ => ∃ z : Str, vs = [.str z] ∧ z.length ≤ 10000 ∧ ∀ H', Same H H' → Q (.bl (isPrice z)) H'
theorem ok_l_price {f : Addr} {fd : FuncData} (F : Fun K "_law_is_price" "_law_is_price" s__law_is_price f fd) (T : LwT mg) : FnOk P w K mg base CX0 1 f fd P__law_is_price sp_l_price := by
  refine F.ok sc__law_is_price (fun vs H Q E h => ?_) (fun cdv A outer s H vs Q E hr h => ?_)
  · obtain ⟨z, rfl, _⟩ := h
    rfl
  · obtain ⟨z, rfl, hz, k⟩ := h
    have hu := hu_of hr
    refine ⟨_, (pss_cons (ps_if (PW.pt (pw_or (pt_cmpR op_eq (pv 0) pe_str (nomark _)) (pw_or (pt_cmpR op_gt (pe_callB call_len_str (by rfl) T.b_len (by decide +kernel) (pa_cons (pv 0) pa_nil)) pe_int (nomark _)) (pw_or1 (pt_cmpR (op_neE hr.units) (pe_lc (own := [("_law_c", 1)]) (g := gName 1) rfl sc__law_is_price.nd (pi_str (pv 0)) (blkOk_by (own := [("_law_c", 1)]) (N := N__law_is_price) (sc := defScope s__law_is_price) (by decide +kernel)) (fun _ _ _ _ _ => (pg_name (i := 1) sc__law_is_price.nd rfl (Or.inl rfl))) (fun _ _ _ _ _ => (pts_one (pt_cmpR op_notIn_sign (pv 1) pe_str rfl))) (fun _ _ _ _ _ => (pv 1))) (pe_lst pa_nil) (nomark _)))))) (pss_one (ps_ret pe_bl)) pss_nil)
      (pss_one (ps_ret (pe_and (pe_cmpR op_ne (pe_ix ix_str (pv 0) pe_int (fun _ _ => rfl)) pe_str (nomark _)) (pe_one (pe_cmpR op_le (pe_callTy call_int_str (by rfl) T.b_int (by decide +kernel) (pa_cons (pv 0) pa_nil)) (pe_op op_pow pe_int pe_int) (nomark _))))))), ?_⟩
    show tSeq _ _ _ [some (V.str z), none] H
    have hz2 : z.length ≤ sizeLine := Nat.le_trans hz (by decide)
    walk_at "rd"
    refine x_D (fun h1 => ?_) (fun h1 => ?_)
    · walk_at "rd"
      have e : isPrice z = false := by
        unfold isPrice
        rw [decide_eq_true (V.str.inj h1)]
        rfl
      rw [← e]
      exact k _ fun _ _ q => q
    walk_at "rd"
    refine x_D (fun h2 => ?_) (fun h2 => ?_)
    · walk_at "rd"
      have e : isPrice z = false := by
        unfold isPrice
        rw [decide_eq_true (show 31 < z.length by omega)]
        simp
      rw [← e]
      exact k _ fun _ _ q => q
    walk_at "rd"
    intro D nD
    refine lc_it walk_str (fun i H' => Hold (H' = upd H D (.lst (((z.cps.toList.take i).filter fun c => !decide (c ∈ digitsS.cps.toList)).map fun c => V.str ⟨#[c]⟩)))) ⟨rfl⟩ (fun _ _ _ _ => trivial) ?_ ?_
    · rintro i v H' H'' hi ⟨rfl⟩ ⟨rfl, c, hc, rfl⟩
      have hc2 : z.cps.toList[i]? = some c := by simpa using hc
      walk_at "rd"
      refine x_NB (fun h => ?_) (fun h => ?_)
      · replace h : decide (c ∈ digitsS.cps.toList) = false := h
        walk_at "rd"
        refine ⟨upd_same, ?_, ⟨?_⟩⟩
        · rw [List.length_map]
          have h1 := List.length_filter_le (fun c => !decide (c ∈ digitsS.cps.toList)) (z.cps.toList.take i)
          rw [List.length_take] at h1
          have h2 : z.cps.toList.length = z.length := by simp [Str.length]
          have := big5
          omega
        · rw [upd_upd, List.take_add_one, hc2, List.filter_append, List.map_append]
          congr 3
          show _ = ([c].filter _).map _
          rw [List.filter_cons_of_pos (by rw [h]; rfl)]
          rfl
      · replace h : decide (c ∈ digitsS.cps.toList) = true := h
        refine ⟨?_⟩
        rw [List.take_add_one, hc2, List.filter_append]
        show upd H D _ = upd H D (.lst ((_ ++ ([c].filter _)).map _))
        rw [List.filter_cons_of_neg (by rw [h]; decide)]
        simp
    · rintro H' ⟨rfl⟩
      rw [List.take_of_length_le (by simp)]
      have sD := same_upd (o := .lst ((z.cps.toList.filter fun c => !decide (c ∈ digitsS.cps.toList)).map fun c => V.str ⟨#[c]⟩)) nD
      have eD : upd H D (.lst ((z.cps.toList.filter fun c => !decide (c ∈ digitsS.cps.toList)).map fun c => V.str ⟨#[c]⟩)) D = _ := upd_same
      generalize upd H D _ = H4 at sD eD ⊢
      walk_at "rd"
      intro q nq
      have sq := same_upd (o := .lst []) nq
      refine x_neE (SqL.of (sq _ _ eD)) upd_same ?_
      rw [List.isEmpty_map, made_filter]
      replace sD := sD.trans sq
      generalize upd H4 q _ = H5 at sD ⊢
      walk_at "rd"
      refine x_NB (fun h3 => ?_) (fun h3 => ?_)
      · walk_at "rd"
        have e : isPrice z = false := by
          unfold isPrice
          rw [h3]
          simp
        rw [← e]
        exact k _ sD
      walk_at "rd"
      obtain ⟨c, r, hc⟩ : ∃ c r, z.cps.toList = c :: r := by
        cases e : z.cps.toList with
        | nil =>
          refine absurd ?_ h1
          cases z with
          | mk a => rw [show a = #[] by simpa using e]; rfl
        | cons c r => exact ⟨c, r, rfl⟩
      refine ⟨z, 0, c, rfl, rfl, hz2, by rw [hc]; exact atI_nat (xs := c :: r) (j := 0) rfl, ?_⟩
      walk_at "rd"
      have hs : ∀ c : Nat, (V.str ⟨#[c]⟩ = V.str "0") ↔ c = 48 := fun c => ⟨fun e => by
        have h := congrArg Str.cps (V.str.inj e)
        rw [show (Str.ofString "0").cps = #[48] by decide +kernel] at h
        have h2 : #[c] = #[48] := h
        simpa using h2, fun e => by rw [e]; decide +kernel⟩
      refine x_ND (fun h4 => ?_) (fun h4 => ?_)
      rotate_left
      · have e : isPrice z = false := by
          unfold isPrice
          rw [hc, (hs c).mp h4]
          simp
        rw [← e]
        exact k _ sD
      walk_at "rd"
      have h31 : z.length ≤ 31 := by omega
      have h0 : z ≠ "" := fun e => h1 (by rw [e])
      refine ⟨price_text h0 h31 h3, by omega, ?_⟩
      walk_at "rd"
      have e : isPrice z = decide (priceOf z ≤ 1000000000000000000000000000000) := by
        unfold isPrice
        rw [decide_eq_false h0, decide_eq_false (show ¬ 31 < z.length by omega), h3, hc, decide_eq_false (show ¬ (c :: r)[0]? = some 48 from fun e => h4 ((hs c).mpr (by simpa using e)))]
        simp
      have e30 : (10 : Int) ^ Int.toNat 30 = 1000000000000000000000000000000 := by decide +kernel
      show Q (.bl (decide (priceOf z ≤ (10 : Int) ^ Int.toNat 30))) H5
      rw [e30, ← e]
      exact k _ sD
end
end MP
end
section
open PySem L2 MPX MP
local macro_rules | `(tactic| walk_at "rd1") => `(tactic| first
  | with_reducible refine x_seq ?_
  | with_reducible refine x_next ?_
  | with_reducible refine x_ret ?_
  | with_reducible refine x_retN ?_
  | with_reducible refine x_ifs ?_
  | with_reducible refine x_asg ?_
  | with_reducible refine x_drop ?_
  | with_reducible refine x_name ?_
  | ((with_reducible refine' x_var ?vv ?_); (case vv => exact rfl))
  | with_reducible refine x_c ?_
  | with_reducible refine x_op ?_
  | with_reducible refine x_un ?_
  | with_reducible refine x_test ?_
  | with_reducible refine x_tB ?_
  | with_reducible refine x_and ?_
  | with_reducible refine x_or ?_
  | with_reducible refine x_not ?_
  | with_reducible refine x_andV ?_
  | with_reducible refine x_orV ?_
  | with_reducible refine x_notV ?_
  | with_reducible refine x_if ?_
  | with_reducible refine x_nil ?_
  | with_reducible refine x_cons ?_
  | with_reducible refine x_tup ?_
  | with_reducible refine x_lst ?_
  | with_reducible refine x_cb ?_
  | with_reducible refine x_call ?_
  | with_reducible refine x_callS ?_
  | with_reducible refine x_callP ?_
  | with_reducible refine x_mk0 ?_
  | with_reducible refine x_mk1 ?_
  | with_reducible refine x_mk2 ?_
  | with_reducible refine x_make ?_
  | with_reducible refine x_sfld ?_
  | with_reducible refine x_din ?_
  | with_reducible refine x_dnin ?_
  | with_reducible refine x_fldS ?_
  | with_reducible refine x_sl3 ?_
  | ((with_reducible refine' r_rd ?vr ?vt ?vm ?vl ?vq); (case vr => (with_reducible assumption)); (case vt => assumption); (case vm => decide +kernel); (case vl => exact rfl))
  | with_reducible refine x_m0 ?_
  | with_reducible refine x_m1 ?_
  | with_reducible refine x_bm0 ?_
  | with_reducible refine x_bm ?_
  | with_reducible refine x_par ?_
  | with_reducible refine x_ilist ?_
  | with_reducible refine x_itup ?_
  | with_reducible refine x_istr ?_
  | ((with_reducible show tLc _ _ _ _ _ _ _ _); unfold tLc)
  | ((with_reducible show tFor _ _ _ _ _ _); unfold tFor)
  | ((with_reducible refine' x_eq ?vv ?_); (case vv => exact rfl))
  | ((with_reducible refine' x_ne ?vv ?_); (case vv => exact rfl))
  | with_reducible refine x_rI0 ?_
  | with_reducible refine x_dgetR ?_
  | with_reducible refine x_dputR ?_
  | with_reducible refine x_dnew ?_
  | with_reducible refine x_dget1 ?_
  | with_reducible refine x_dget2 ?_
  | with_reducible refine x_sl ?_
  | with_reducible refine x_nopart ?_
  | with_reducible refine x_part ?_
  | ((with_reducible refine' x_slL ?vv ?_); (case vv => (with_reducible assumption)))
  | with_reducible refine x_disp ?_
  | with_reducible refine x_pcons ?_
  | with_reducible refine x_pnil ?_
  | ((with_reducible refine' x_mod ?vv ?_); (case vv => omega); intro r er hr0 hr1)
  | ((with_reducible refine' x_rI ?vv ?_); (case vv => walk_at "sc"))
  | (with_reducible refine Or.inl (Exists.intro _ (And.intro rfl ?_)))
  | with_reducible refine x_T ?_
  | with_reducible refine x_F ?_
  | ((with_reducible show Exists (α := V) _); (with_reducible apply Exists.intro))
  | ((with_reducible show Exists (α := Bool) _); (with_reducible apply Exists.intro))
  | ((with_reducible show Exists (α := Nat) _); (with_reducible apply Exists.intro))
  | ((with_reducible show Exists (α := Int) _); (with_reducible apply Exists.intro))
  | ((with_reducible show Exists (α := List V) _); (with_reducible apply Exists.intro))
  | ((with_reducible show Exists (α := PySem.Str) _); (with_reducible apply Exists.intro))
  | ((with_reducible show Exists (α := Option V) _); (with_reducible apply Exists.intro))
  | ((with_reducible show Exists (α := Option Int) _); (with_reducible apply Exists.intro))
  | ((with_reducible show Exists (α := List (Key × V)) _); (with_reducible apply Exists.intro))
  | refine And.intro rfl ?_
  | ((with_reducible refine And.intro ?vv ?_); (case vv => (first | (with_reducible assumption) | (show _ ≤ sizeLine; decide) | exact len_ok rfl)))
  | (refine And.intro (Exists.intro _ rfl) ?_))
local macro_rules | `(tactic| walk_at "sc") => `(tactic| first
  | (with_reducible assumption)
  | exact divW (by omega) (by omega)
  | exact mulW (by omega) (by omega)
  | exact Or.inl ⟨by omega, by omega⟩
  | exact Or.inr ⟨by omega, by omega⟩
  | (show (_ : Int) ≠ 0; omega)
  | exact ⟨by decide, by decide, by decide⟩
  | decide)
local macro_rules | `(tactic| walk_at "rd") => `(tactic| repeat walk_at "rd1")
namespace MP
open PySem L2 MPX
section
variable {P : Program} {w : World} {K : PySem.W.Frag} {mg : Str → Option Value} {base : Heap}
abbrev s__law_mode_right : Stmt := topS 54
abbrev N__law_mode_right : List Str := ["_law_s", "_law_words", "_law_values", "_law_word_here", "_law_modes"]
abbrev P__law_mode_right : List Str := ["_law_s", "_law_words"]
theorem sc__law_mode_right : FnScope N__law_mode_right P__law_mode_right (defScope s__law_mode_right) := ⟨rfl, rfl, rfl, by decide +kernel, rfl, by decide +kernel, by decide +kernel⟩
abbrev s__law_start_right : Stmt := topS 55
abbrev N__law_start_right : List Str := ["_law_s", "_law_words"]
abbrev P__law_start_right : List Str := ["_law_s", "_law_words"]
theorem sc__law_start_right : FnScope N__law_start_right P__law_start_right (defScope s__law_start_right) := ⟨rfl, rfl, rfl, by decide +kernel, rfl, by decide +kernel, by decide +kernel⟩
def sp_l_mode (K : PySem.W.Frag) : Sp := fun vs H Q _ => ∃ (p : Addr) (ad : Nat → Addr) (S : LS) (a : Addr) (ws : List Str), vs = [.ref p, .ref a] ∧ LSAt H p ad S ∧ SmS S ∧ WdS K H ad a ws ∧ LsPost p ad H (lModeOk isName isPrice S ws) (lModeSt S ws) Q
theorem ok_l_mode {f : Addr} {fd : FuncData} (F : Fun K "_law_mode_right" "_law_mode_right" s__law_mode_right f fd) (T : LwT mg) (c__law_is_name : Cal P w K mg base 1 "_law_is_name" sp_l_name) (c__law_is_price : Cal P w K mg base 1 "_law_is_price" sp_l_price) :
    FnOk P w K mg base CX0 2 f fd P__law_mode_right (sp_l_mode K) := by
  refine F.ok sc__law_mode_right (fun vs H Q E h => ?_) (fun cdv A outer s H vs Q E hr h => ?_)
  · obtain ⟨p, ad, S, a, ws, rfl, _⟩ := h
    rfl
  · obtain ⟨p, ad, S, a, ws, rfl, r, sm, x, k0, k1⟩ := h
    have hu := hu_of hr
    refine ⟨_, (pss_cons (ps_if (PW.pt (pw_or (pt_cmpR (op_neE hr.units) (pe_dget hu (pv 0) pe_str (fun _ _ => rfl)) (pe_lst pa_nil) (nomark _)) (pw_or (pt_cmpR op_lt (pe_callB call_len_seq (by rfl) T.b_len (by decide +kernel) (pa_cons (pv 1) pa_nil)) pe_int (nomark _)) (pw_or (pt_cmpR op_ne (pe_op op_modN (pe_callTy call_int1 (by rfl) T.b_int (by decide +kernel) (pa_cons (pe_callB call_len_seq (by rfl) T.b_len (by decide +kernel) (pa_cons (pv 1) pa_nil)) pa_nil)) pe_int) pe_int (nomark _)) (pw_or1 (pt_cmpR op_gt (pe_callB call_len_seq (by rfl) T.b_len (by decide +kernel) (pa_cons (pv 1) pa_nil)) pe_int (nomark _))))))) (pss_one (ps_ret pe_bl)) pss_nil)
      (pss_cons (ps_set (i := 2) sc__law_mode_right.nd rfl (Or.inl rfl) (pe_slice3 (pv 1) (po_some pe_int) po_none (po_some pe_int)))
      (pss_cons (ps_if (PW.pt (pw_or (pt_not (pt_val (pe_cc c__law_is_name hr (by decide) rfl (pa_cons (pe_ix ix_list (pv 1) pe_int (fun _ _ => rfl)) pa_nil)))) (pw_or (pt_cmp (pc_din hu (pe_ix ix_list (pv 1) pe_int (fun _ _ => rfl)) (pe_dget hu (pv 0) pe_str (fun _ _ => rfl)))) (pw_or1 (pt_cmpR op_eq (pe_callB call_lenD (by rfl) T.b_len (by decide +kernel) (pa_cons (pe_dget hu (pv 0) pe_str (fun _ _ => rfl)) pa_nil)) pe_int (nomark _)))))) (pss_one (ps_ret pe_bl)) pss_nil)
      (pss_cons (ps_if (PW.pt (pw_or (pt_cmpR (op_neE hr.units) (pe_lc (own := [("_law_word_here", 3)]) (g := gName 3) rfl sc__law_mode_right.nd (pi_list (pv 2)) (blkOk_by (own := [("_law_word_here", 3)]) (N := N__law_mode_right) (sc := defScope s__law_mode_right) (by decide +kernel)) (fun _ _ _ _ _ => (pg_name (i := 3) sc__law_mode_right.nd rfl (Or.inl rfl))) (fun _ _ _ _ _ => (pts_one (pt_not (pt_val (pe_cc c__law_is_name hr (by decide) rfl (pa_cons (pv 3) pa_nil)))))) (fun _ _ _ _ _ => (pv 3))) (pe_lst pa_nil) (nomark _)) (pw_or1 (pt_cmpR op_ne (pe_lenSetD rfl (by rfl) T.b_len (by rfl) T.b_set (pv 2)) (pe_callB call_len_seq (by rfl) T.b_len (by decide +kernel) (pa_cons (pv 2) pa_nil)) (nomark _))))) (pss_one (ps_ret pe_bl)) pss_nil)
      (pss_cons (ps_if (pt_cmpR (op_neE hr.units) (pe_lc (own := [("_law_word_here", 3)]) (g := gName 3) rfl sc__law_mode_right.nd (pi_list (pe_slice3 (pv 1) (po_some pe_int) po_none (po_some pe_int))) (blkOk_by (own := [("_law_word_here", 3)]) (N := N__law_mode_right) (sc := defScope s__law_mode_right) (by decide +kernel)) (fun _ _ _ _ _ => (pg_name (i := 3) sc__law_mode_right.nd rfl (Or.inl rfl))) (fun _ _ _ _ _ => (pts_one (pt_not (pt_val (pe_cc c__law_is_price hr (by decide) rfl (pa_cons (pv 3) pa_nil)))))) (fun _ _ _ _ _ => (pv 3))) (pe_lst pa_nil) (nomark _)) (pss_one (ps_ret pe_bl)) pss_nil)
      (pss_cons (ps_set (i := 4) sc__law_mode_right.nd rfl (Or.inl rfl) (pe_dget hu (pv 0) pe_str (fun _ _ => rfl)))
      (pss_cons (ps_dput hu (pv 4) (pe_ix ix_list (pv 1) pe_int (fun _ _ => rfl)) (pv 2) rfl)
      (pss_one (ps_ret pe_bl))))))))), ?_⟩
    show tSeq _ _ _ [some (V.ref p), some (V.ref a), none, none, none] H
    walk_at "rd"
    refine ⟨p, _, rfl, dget_s r.dc (show valV (lsK ad) _ = some (.ref (ad 2)) from rfl), ?_⟩
    walk_at "rd"
    intro e ne
    have s1 : Same H (upd H e (.lst [])) := same_upd ne
    refine x_neE (SqL.of (s1 _ _ r.t2)) upd_same ?_
    rw [List.isEmpty_map]
    replace r := r.same s1
    replace x := x.same s1
    have f1 : FrS ad H _ := FrS.of s1
    clear s1
    generalize upd H e _ = H1 at r x f1 ⊢
    have ke : ∀ n r0 w0, ws = w0 :: n :: r0 → lModeOk isName isPrice S ws = (S.procs.isEmpty && decide (2 ≤ r0.length) && decide (r0.length % 2 = 0) && decide (r0.length ≤ 12) && isName n && !(look S.modes n).isSome && !decide (S.modes.length = 6) && (ev r0).all isName && decide (ev r0).Nodup && (ev r0.tail).all isPrice) := fun n r0 w0 e => by rw [e]; rfl
    walk_at "rd"
    refine x_NB (fun h0 => ?_) (fun h0 => ?_)
    · walk_at "rd"
      refine k0 ?_ _ f1
      match ws, ke with
      | [], _ => rfl
      | [_], _ => rfl
      | _ :: n :: r0, ke => rw [ke n r0 _ rfl, h0]; rfl
    walk_at "rd"
    refine ⟨Or.inl (SqL.of x.at_), ?_⟩
    walk_at "rd"
    rw [List.length_map]
    refine x_D (fun h1 => ?_) (fun h1 => ?_)
    · walk_at "rd"
      refine k0 ?_ _ f1
      match ws, ke, h1 with
      | [], _, _ => rfl
      | [_], _, _ => rfl
      | _ :: n :: r0, ke, h1 =>
        simp only [List.length_cons] at h1
        rw [ke n r0 _ rfl, decide_eq_false (show ¬ 2 ≤ r0.length by omega)]
        simp
    obtain ⟨w0, n, r0, rfl⟩ : ∃ a b r, ws = a :: b :: r := by
      match ws, h1 with
      | [], h => exact absurd (by show ((0 : Nat) : Int) < 4; decide) h
      | [_], h => exact absurd (by show ((1 : Nat) : Int) < 4; decide) h
      | a :: b :: r, _ => exact ⟨a, b, r, rfl⟩
    replace ke := ke n r0 w0 rfl
    have hm : (((w0 :: n :: r0).length : Nat) : Int) = (r0.length : Int) + 2 := by simp only [List.length_cons]; omega
    rw [hm] at h1
    rw [h0, decide_eq_true (show 2 ≤ r0.length by omega)] at ke
    have hln := x.el n (by simp)
    walk_at "rd"
    refine ⟨Or.inl (SqL.of x.at_), ?_⟩
    rw [List.length_map, hm]
    walk_at "rd"
    rename_i q hq q0 q1
    refine x_ND (fun h2 => ?_) (fun h2 => ?_)
    · walk_at "rd"
      refine k0 ?_ _ f1
      rw [ke, decide_eq_false (show ¬ r0.length % 2 = 0 from fun z => h2 (congrArg V.int (by omega)))]
      simp
    have h2' : r0.length % 2 = 0 := by have := V.int.inj h2; omega
    rw [decide_eq_true h2'] at ke
    walk_at "rd"
    refine ⟨Or.inl (SqL.of x.at_), ?_⟩
    walk_at "rd"
    rw [List.length_map, hm]
    refine x_D (fun h3 => ?_) (fun h3 => ?_)
    · walk_at "rd"
      refine k0 ?_ _ f1
      rw [ke, decide_eq_false (show ¬ r0.length ≤ 12 by omega)]
      simp
    have h3' : r0.length ≤ 12 := by omega
    rw [decide_eq_true h3'] at ke
    obtain ⟨pe1, pe2, pl1, pl2⟩ := pick_ev (V.str w0) (V.str n) (r0.map V.str) (by rw [List.length_map]; exact h3') (by rw [List.length_map]; exact h2')
    rw [← map_ev] at pe1
    rw [show (ev (r0.map V.str).tail) = (ev r0.tail).map V.str by rw [← List.map_tail, map_ev]] at pe2
    have le1 : (ev r0).length ≤ 12 := by
      have e := congrArg List.length (map_ev V.str r0)
      rw [List.length_map] at e
      rw [List.length_map] at pl1
      omega
    have le2 : (ev r0.tail).length ≤ 12 := by
      have e := congrArg List.length (map_ev V.str r0.tail)
      rw [List.length_map, List.map_tail] at e
      rw [List.length_map] at pl2
      omega
    have hev : ∀ y ∈ ev r0, y.length ≤ 10000 := fun y hy => by
      obtain ⟨i, hi⟩ := List.mem_iff_getElem?.mp hy
      rw [ev_at] at hi
      exact x.el y (List.mem_cons_of_mem _ (List.mem_cons_of_mem _ (List.mem_of_getElem? hi)))
    have hev2 : ∀ y ∈ ev r0.tail, y.length ≤ 10000 := fun y hy => by
      obtain ⟨i, hi⟩ := List.mem_iff_getElem?.mp hy
      rw [ev_at] at hi
      exact x.el y (List.mem_cons_of_mem _ (List.mem_cons_of_mem _ (List.mem_of_mem_tail (List.mem_of_getElem? hi))))
    walk_at "rd"
    refine r_sl3 (SqL.of x.at_) (fun z => by cases z) pe1 (by rw [List.length_map]; have := big5; omega) fun H2 va s2 nva eva => ?_
    have hva := r.fresh nva
    replace r := r.same s2
    replace x := x.same s2
    replace f1 := f1.trans (FrS.of s2)
    clear s2
    walk_at "rd"
    refine x_ixL (SqL.of x.at_) (atI_nat (j := 1) rfl) ?_
    walk_at "rd"
    refine ⟨n, rfl, hln, fun H3 s3 => ?_⟩
    replace r := r.same s3
    replace x := x.same s3
    replace f1 := f1.trans (FrS.of s3)
    replace eva := s3 _ _ eva
    clear s3
    walk_at "rd"
    refine x_NB (fun h4 => ?_) (fun h4 => ?_)
    · walk_at "rd"
      refine k0 ?_ _ f1
      rw [ke, h4]
      simp
    rw [h4] at ke
    obtain ⟨ma, ema, hma⟩ := r.t0
    walk_at "rd"
    refine x_ixL (SqL.of x.at_) (atI_nat (j := 1) rfl) ?_
    walk_at "rd"
    refine ⟨p, _, rfl, dget_s r.dc (show valV (lsK ad) _ = some (.ref (ad 0)) from rfl), ?_⟩
    refine r_dinS (f := V.ref) ema ?_
    rw [hma.som]
    walk_at "rd"
    refine x_B (fun h5 => ?_) (fun h5 => ?_)
    · walk_at "rd"
      refine k0 ?_ _ f1
      rw [ke, h5]
      simp
    rw [h5] at ke
    walk_at "rd"
    refine ⟨p, _, rfl, dget_s r.dc (show valV (lsK ad) _ = some (.ref (ad 0)) from rfl), ?_⟩
    refine ⟨ad 0, _, rfl, ema, ?_⟩
    rw [kS_len, hma.len]
    walk_at "rd"
    refine x_D (fun h6 => ?_) (fun h6 => ?_)
    · walk_at "rd"
      refine k0 ?_ _ f1
      have h6' : S.modes.length = 6 := by have := V.int.inj h6; omega
      rw [ke, decide_eq_true h6']
      simp
    rw [decide_eq_false (show ¬ S.modes.length = 6 from fun z => h6 (by rw [z]; rfl))] at ke
    walk_at "rd"
    refine ⟨⟨_, SqL.of eva⟩, fun D nD => ?_⟩
    have hl12 : ((ev r0).map V.str).length < 100000 := by rw [List.length_map]; omega
    refine lc_same (K := K) (fV fun y => !isName y) id (SqL.of eva) nD hl12 (fun y H' acc R hy hs hacc hln2 g1 g2 => ?_) (fun H4 s4 e4 => ?_)
    · obtain ⟨yy, hyy, rfl⟩ := List.mem_map.mp hy
      walk_at "rd"
      refine ⟨yy, rfl, hev yy hyy, fun H4 s4 => ?_⟩
      walk_at "rd"
      refine x_NB (fun h => ?_) (fun h => ?_)
      · walk_at "rd"
        exact ⟨s4 _ _ hacc, hln2, g1 (show (!isName yy) = true by rw [h]; rfl) H4 s4⟩
      · exact g2 (show (!isName yy) = false by rw [h]; rfl) H4 s4
    rw [List.map_id, fV_filter] at e4
    replace r := r.same s4
    replace x := x.same s4
    replace f1 := f1.trans (FrS.of s4)
    replace eva := s4 _ _ eva
    clear s4
    walk_at "rd"
    intro q nq
    have s5 := same_upd (o := .lst []) nq
    refine x_neE (SqL.of (s5 _ _ e4)) upd_same ?_
    rw [List.isEmpty_map, isE_filter]
    replace r := r.same s5
    replace x := x.same s5
    replace f1 := f1.trans (FrS.of s5)
    replace eva := s5 _ _ eva
    clear s5 e4
    generalize upd H4 q _ = H5 at r x f1 eva ⊢
    walk_at "rd"
    refine x_NB (fun h7 => ?_) (fun h7 => ?_)
    · walk_at "rd"
      refine k0 ?_ _ f1
      rw [ke, h7]
      simp
    rw [h7] at ke
    walk_at "rd"
    refine x_lenSet ?_
    walk_at "rd"
    refine ⟨va, ev r0, rfl, SqL.of eva, by omega, ?_⟩
    walk_at "rd"
    refine ⟨Or.inl (SqL.of eva), ?_⟩
    rw [List.length_map]
    walk_at "rd"
    refine x_ND (fun h8 => ?_) (fun h8 => ?_)
    · walk_at "rd"
      refine k0 ?_ _ f1
      rw [ke, decide_eq_false (show ¬ (ev r0).Nodup from fun z => h8 (by rw [(metD_iff _).mpr z]))]
      simp
    rw [decide_eq_true (show (ev r0).Nodup from (metD_iff _).mp (by have := V.int.inj h8; omega))] at ke
    walk_at "rd"
    refine r_sl3 (SqL.of x.at_) (fun z => by cases z) pe2 (by rw [List.length_map]; have := big5; omega) fun H6 vb s6 nvb evb => ?_
    replace r := r.same s6
    replace x := x.same s6
    replace f1 := f1.trans (FrS.of s6)
    replace eva := s6 _ _ eva
    clear s6
    walk_at "rd"
    refine ⟨⟨_, SqL.of evb⟩, fun D2 nD2 => ?_⟩
    have hl13 : ((ev r0.tail).map V.str).length < 100000 := by rw [List.length_map]; omega
    refine lc_same (K := K) (fV fun y => !isPrice y) id (SqL.of evb) nD2 hl13 (fun y H' acc R hy hs hacc hln2 g1 g2 => ?_) (fun H7 s7 e7 => ?_)
    · obtain ⟨yy, hyy, rfl⟩ := List.mem_map.mp hy
      walk_at "rd"
      refine ⟨yy, rfl, hev2 yy hyy, fun H4 s4 => ?_⟩
      walk_at "rd"
      refine x_NB (fun h => ?_) (fun h => ?_)
      · walk_at "rd"
        exact ⟨s4 _ _ hacc, hln2, g1 (show (!isPrice yy) = true by rw [h]; rfl) H4 s4⟩
      · exact g2 (show (!isPrice yy) = false by rw [h]; rfl) H4 s4
    rw [List.map_id, fV_filter] at e7
    replace r := r.same s7
    replace x := x.same s7
    replace f1 := f1.trans (FrS.of s7)
    replace eva := s7 _ _ eva
    clear s7 evb
    walk_at "rd"
    intro q2 nq2
    have s8 := same_upd (o := .lst []) nq2
    refine x_neE (SqL.of (s8 _ _ e7)) upd_same ?_
    rw [List.isEmpty_map, isE_filter]
    replace r := r.same s8
    replace x := x.same s8
    replace f1 := f1.trans (FrS.of s8)
    replace eva := s8 _ _ eva
    clear s8 e7
    generalize upd H7 q2 _ = H8 at r x f1 eva ⊢
    walk_at "rd"
    refine x_NB (fun h9 => ?_) (fun h9 => ?_)
    · walk_at "rd"
      refine k0 ?_ _ f1
      rw [ke, h9]
      simp
    rw [h9] at ke
    clear ma ema hma
    obtain ⟨ma, ema, hma⟩ := r.t0
    have hlk : (look S.modes n).isSome = false := h5
    walk_at "rd"
    refine ⟨p, _, rfl, dget_s r.dc (show valV (lsK ad) _ = some (.ref (ad 0)) from rfl), ?_⟩
    walk_at "rd"
    refine x_ixL (SqL.of x.at_) (atI_nat (j := 1) rfl) ?_
    refine r_putS (f := V.ref) ema (Option.not_isSome_iff_eq_none.mp (by rw [hma.som, hlk]; decide)) (by rw [hma.len]; exact lt5 sm.s0) ?_
    have r2 := r.put0 ema hma hlk eva hva
    walk_at "rd"
    exact k1 (by rw [ke]; rfl) _ (f1.trans (FrS.put (by decide))) r2
end
end MP
end
section
open PySem L2 MPX MP
local macro_rules | `(tactic| walk_at "rd1") => `(tactic| first
  | with_reducible refine x_seq ?_
  | with_reducible refine x_next ?_
  | with_reducible refine x_ret ?_
  | with_reducible refine x_retN ?_
  | with_reducible refine x_ifs ?_
  | with_reducible refine x_asg ?_
  | with_reducible refine x_drop ?_
  | with_reducible refine x_name ?_
  | ((with_reducible refine' x_var ?vv ?_); (case vv => exact rfl))
  | with_reducible refine x_c ?_
  | with_reducible refine x_op ?_
  | with_reducible refine x_un ?_
  | with_reducible refine x_test ?_
  | with_reducible refine x_tB ?_
  | with_reducible refine x_and ?_
  | with_reducible refine x_or ?_
  | with_reducible refine x_not ?_
  | with_reducible refine x_andV ?_
  | with_reducible refine x_orV ?_
  | with_reducible refine x_notV ?_
  | with_reducible refine x_if ?_
  | with_reducible refine x_nil ?_
  | with_reducible refine x_cons ?_
  | with_reducible refine x_tup ?_
  | with_reducible refine x_lst ?_
  | with_reducible refine x_cb ?_
  | with_reducible refine x_call ?_
  | with_reducible refine x_callS ?_
  | with_reducible refine x_callP ?_
  | with_reducible refine x_mk0 ?_
  | with_reducible refine x_mk1 ?_
  | with_reducible refine x_mk2 ?_
  | with_reducible refine x_make ?_
  | with_reducible refine x_sfld ?_
  | with_reducible refine x_din ?_
  | with_reducible refine x_dnin ?_
  | with_reducible refine x_fldS ?_
  | with_reducible refine x_sl3 ?_
  | ((with_reducible refine' r_rd ?vr ?vt ?vm ?vl ?vq); (case vr => (with_reducible assumption)); (case vt => assumption); (case vm => decide +kernel); (case vl => exact rfl))
  | with_reducible refine x_m0 ?_
  | with_reducible refine x_m1 ?_
  | with_reducible refine x_bm0 ?_
  | with_reducible refine x_bm ?_
  | with_reducible refine x_par ?_
  | with_reducible refine x_ilist ?_
  | with_reducible refine x_itup ?_
  | with_reducible refine x_istr ?_
  | ((with_reducible show tLc _ _ _ _ _ _ _ _); unfold tLc)
  | ((with_reducible show tFor _ _ _ _ _ _); unfold tFor)
  | ((with_reducible refine' x_eq ?vv ?_); (case vv => exact rfl))
  | ((with_reducible refine' x_ne ?vv ?_); (case vv => exact rfl))
  | with_reducible refine x_rI0 ?_
  | with_reducible refine x_dgetR ?_
  | with_reducible refine x_dputR ?_
  | with_reducible refine x_dnew ?_
  | with_reducible refine x_dget1 ?_
  | with_reducible refine x_dget2 ?_
  | with_reducible refine x_sl ?_
  | with_reducible refine x_nopart ?_
  | with_reducible refine x_part ?_
  | ((with_reducible refine' x_slL ?vv ?_); (case vv => (with_reducible assumption)))
  | with_reducible refine x_disp ?_
  | with_reducible refine x_pcons ?_
  | with_reducible refine x_pnil ?_
  | ((with_reducible refine' x_mod ?vv ?_); (case vv => omega); intro r er hr0 hr1)
  | ((with_reducible refine' x_rI ?vv ?_); (case vv => walk_at "sc"))
  | (with_reducible refine Or.inl (Exists.intro _ (And.intro rfl ?_)))
  | with_reducible refine x_T ?_
  | with_reducible refine x_F ?_
  | ((with_reducible show Exists (α := V) _); (with_reducible apply Exists.intro))
  | ((with_reducible show Exists (α := Bool) _); (with_reducible apply Exists.intro))
  | ((with_reducible show Exists (α := Nat) _); (with_reducible apply Exists.intro))
  | ((with_reducible show Exists (α := Int) _); (with_reducible apply Exists.intro))
  | ((with_reducible show Exists (α := List V) _); (with_reducible apply Exists.intro))
  | ((with_reducible show Exists (α := PySem.Str) _); (with_reducible apply Exists.intro))
  | ((with_reducible show Exists (α := Option V) _); (with_reducible apply Exists.intro))
  | ((with_reducible show Exists (α := Option Int) _); (with_reducible apply Exists.intro))
  | ((with_reducible show Exists (α := List (Key × V)) _); (with_reducible apply Exists.intro))
  | refine And.intro rfl ?_
  | ((with_reducible refine And.intro ?vv ?_); (case vv => (first | (with_reducible assumption) | (show _ ≤ sizeLine; decide) | exact len_ok rfl)))
  | (refine And.intro (Exists.intro _ rfl) ?_))
local macro_rules | `(tactic| walk_at "sc") => `(tactic| first
  | (with_reducible assumption)
  | exact divW (by omega) (by omega)
  | exact mulW (by omega) (by omega)
  | exact Or.inl ⟨by omega, by omega⟩
  | exact Or.inr ⟨by omega, by omega⟩
  | (show (_ : Int) ≠ 0; omega)
  | exact ⟨by decide, by decide, by decide⟩
  | decide)
local macro_rules | `(tactic| walk_at "rd") => `(tactic| repeat walk_at "rd1")
namespace MP
open PySem L2 MPX
section
variable {P : Program} {w : World} {K : PySem.W.Frag} {mg : Str → Option Value} {base : Heap}
abbrev s__law_do_right : Stmt := topS 56
abbrev N__law_do_right : List Str := ["_law_s", "_law_words", "_law_seen", "_law_word_here", "_law_parts"]
abbrev P__law_do_right : List Str := ["_law_s", "_law_words"]
theorem sc__law_do_right : FnScope N__law_do_right P__law_do_right (defScope s__law_do_right) := ⟨rfl, rfl, rfl, by decide +kernel, rfl, by decide +kernel, by decide +kernel⟩
def sp_l_start (K : PySem.W.Frag) : Sp := fun vs H Q _ => ∃ (p : Addr) (ad : Nat → Addr) (S : LS) (a : Addr) (ws : List Str), vs = [.ref p, .ref a] ∧ LSAt H p ad S ∧ SmS S ∧ WdS K H ad a ws ∧ LsPost p ad H (lStartOk S ws) (lStartSt S ws) Q
theorem ok_l_start {f : Addr} {fd : FuncData} (F : Fun K "_law_start_right" "_law_start_right" s__law_start_right f fd) (T : LwT mg) : FnOk P w K mg base CX0 1 f fd P__law_start_right (sp_l_start K) := by
  refine F.ok sc__law_start_right (fun vs H Q E h => ?_) (fun cdv A outer s H vs Q E hr h => ?_)
  · obtain ⟨p, ad, S, a, ws, rfl, _⟩ := h
    rfl
  · obtain ⟨p, ad, S, a, ws, rfl, r, sm, x, k0, k1⟩ := h
    have hu := hu_of hr
    refine ⟨_, (pss_cons (ps_if (PW.pt (pw_or (pt_cmpR (op_neE hr.units) (pe_dget hu (pv 0) pe_str (fun _ _ => rfl)) (pe_lst pa_nil) (nomark _)) (pw_or (pt_cmpR op_ne (pe_callB call_len_seq (by rfl) T.b_len (by decide +kernel) (pa_cons (pv 1) pa_nil)) pe_int (nomark _)) (pw_or (pt_cmp (pc_dnotin hu (pe_ix ix_list (pv 1) pe_int (fun _ _ => rfl)) (pe_dget hu (pv 0) pe_str (fun _ _ => rfl)))) (pw_or1 (pt_cmpR op_in_seq (pe_ix ix_list (pv 1) pe_int (fun _ _ => rfl)) (pe_dget hu (pv 0) pe_str (fun _ _ => rfl)) rfl)))))) (pss_one (ps_ret pe_bl)) pss_nil)
      (pss_cons (ps_expr (pe_bm PySem.F.plainAttrs_list PySem.F.slot_list_append PySem.F.type_list_append mt_append (pe_dget hu (pv 0) pe_str (fun _ _ => rfl)) (pa_cons (pe_ix ix_list (pv 1) pe_int (fun _ _ => rfl)) pa_nil)))
      (pss_one (ps_ret (pe_cmpR op_in_seq (pe_ix ix_list (pv 1) pe_int (fun _ _ => rfl)) (pe_dget hu (pe_dget hu (pv 0) pe_str (fun _ _ => rfl)) (pe_ix ix_list (pv 1) pe_int (fun _ _ => rfl)) (fun _ _ => rfl)) rfl))))), ?_⟩
    show tSeq _ _ _ [some (V.ref p), some (V.ref a)] H
    have g0 : ∀ {H : Hp}, LSAt H p ad S → DGet H p (.str "modes") (some (.ref (ad 0))) := fun r => dget_s r.dc (show valV (lsK ad) _ = some (.ref (ad 0)) from rfl)
    have g1 : ∀ {H : Hp}, LSAt H p ad S → DGet H p (.str "starts") (some (.ref (ad 1))) := fun r => dget_s r.dc (show valV (lsK ad) _ = some (.ref (ad 1)) from rfl)
    walk_at "rd"
    refine ⟨p, _, rfl, dget_s r.dc (show valV (lsK ad) _ = some (.ref (ad 2)) from rfl), ?_⟩
    walk_at "rd"
    intro e ne
    have s1 : Same H (upd H e (.lst [])) := same_upd ne
    refine x_neE (SqL.of (s1 _ _ r.t2)) upd_same ?_
    rw [List.isEmpty_map]
    replace r := r.same s1
    replace x := x.same s1
    have f1 : FrS ad H _ := FrS.of s1
    clear s1
    generalize upd H e _ = H1 at r x f1 ⊢
    walk_at "rd"
    refine x_NB (fun h0 => ?_) (fun h0 => ?_)
    · walk_at "rd"
      refine k0 ?_ _ f1
      unfold lStartOk
      split
      · rw [h0]; rfl
      · rfl
    walk_at "rd"
    refine ⟨Or.inl (SqL.of x.at_), ?_⟩
    rw [List.length_map]
    walk_at "rd"
    refine x_ND (fun h1 => ?_) (fun h1 => ?_)
    · walk_at "rd"
      refine k0 ?_ _ f1
      match ws, h1 with
      | [], _ => rfl
      | [_], _ => rfl
      | [_, _], _ => rfl
      | [_, _, _], h => exact absurd rfl h
      | _ :: _ :: _ :: _ :: _, _ => rfl
    obtain ⟨w0, m, v, rfl⟩ : ∃ a b c, ws = [a, b, c] := by
      have h3 : ws.length = 3 := by have := V.int.inj h1; omega
      match ws, h3 with
      | [a, b, c], _ => exact ⟨a, b, c, rfl⟩
    have ke : lStartOk S [w0, m, v] = (S.procs.isEmpty && (look S.modes m).isSome && !decide (m ∈ S.starts) && (match look S.modes m with | some vs => decide (v ∈ vs) | none => false)) := rfl
    rw [h0] at ke
    obtain ⟨ma, ema, hma⟩ := r.t0
    walk_at "rd"
    refine x_ixL (SqL.of x.at_) (atI_nat (j := 1) rfl) ?_
    walk_at "rd"
    refine ⟨p, _, rfl, g0 r, ?_⟩
    refine r_dninS (f := V.ref) ema ?_
    rw [hma.som]
    walk_at "rd"
    refine x_NB (fun h2 => ?_) (fun h2 => ?_)
    · walk_at "rd"
      refine k0 ?_ _ f1
      rw [ke, h2]
      simp
    rw [h2] at ke
    obtain ⟨av, hav⟩ := Option.isSome_iff_exists.mp ((hma.som m).trans h2)
    obtain ⟨vs, hvs, evs, nvs⟩ := hma.val m av hav
    rw [hvs] at ke
    walk_at "rd"
    refine x_ixL (SqL.of x.at_) (atI_nat (j := 1) rfl) ?_
    walk_at "rd"
    refine ⟨p, _, rfl, g1 r, ?_⟩
    refine x_inS (SqL.of r.t1) ?_
    walk_at "rd"
    refine x_D (fun h3 => ?_) (fun h3 => ?_)
    · walk_at "rd"
      refine k0 ?_ _ f1
      rw [ke, decide_eq_true h3]
      rfl
    rw [decide_eq_false h3] at ke
    walk_at "rd"
    refine ⟨p, _, rfl, g1 r, ?_⟩
    refine ⟨Or.inl ⟨rfl, _, SqL.of r.t1⟩, ?_⟩
    walk_at "rd"
    refine x_ixL (SqL.of x.at_) (atI_nat (j := 1) rfl) ?_
    walk_at "rd"
    refine ⟨ad 1, _, V.str m, rfl, rfl, r.t1, by rw [List.length_map]; have := sm.s1; have := big5; omega, ?_⟩
    rw [show S.starts.map V.str ++ [V.str m] = (S.starts ++ [m]).map V.str from by rw [List.map_append]; rfl]
    have r2 := r.put1 (S.starts ++ [m])
    have f2 : FrS ad H _ := f1.trans (FrS.put (ad := ad) (o := .lst ((S.starts ++ [m]).map V.str)) (i := 1) (by decide))
    have x2 := x.fro (FrS.put (ad := ad) (H := H1) (o := .lst ((S.starts ++ [m]).map V.str)) (i := 1) (by decide))
    have ema2 : upd H1 (ad 1) (.lst ((S.starts ++ [m]).map V.str)) (ad 0) = some (.dK (kS V.ref ma)) := by
      rw [upd_ne fun z => by cases r.inj 0 1 (by decide) (by decide) z]
      exact ema
    have evs2 : upd H1 (ad 1) (.lst ((S.starts ++ [m]).map V.str)) av = some (.lst (vs.map V.str)) := by
      rw [upd_ne (nvs 1 (by decide))]
      exact evs
    generalize upd H1 (ad 1) _ = H2 at r2 f2 x2 ema2 evs2 ⊢
    walk_at "rd"
    refine x_ixL (SqL.of x2.at_) (atI_nat (j := 2) rfl) ?_
    walk_at "rd"
    refine ⟨p, _, rfl, dget_s r2.dc (show valV (lsK ad) _ = some (.ref (ad 0)) from rfl), ?_⟩
    walk_at "rd"
    refine x_ixL (SqL.of x2.at_) (atI_nat (j := 1) rfl) ?_
    refine r_getS (f := V.ref) ema2 hav ?_
    refine x_inS (SqL.of evs2) ?_
    walk_at "rd"
    cases hd : decide (v ∈ vs) with
    | true => exact k1 (by rw [ke]; exact hd) _ f2 r2
    | false => exact k0 (by rw [ke]; exact hd) _ f2
def sp_l_do (K : PySem.W.Frag) : Sp := fun vs H Q _ => ∃ (p : Addr) (ad : Nat → Addr) (S : LS) (a : Addr) (ws : List Str), vs = [.ref p, .ref a] ∧ LSAt H p ad S ∧ SmS S ∧ WdS K H ad a ws ∧ LsPost p ad H (lDoOk isName splE S ws) S Q
theorem ok_l_do {f : Addr} {fd : FuncData} (F : Fun K "_law_do_right" "_law_do_right" s__law_do_right f fd) (T : LwT mg) (c__law_is_name : Cal P w K mg base 1 "_law_is_name" sp_l_name) : FnOk P w K mg base CX0 2 f fd P__law_do_right (sp_l_do K) := by
  refine F.ok sc__law_do_right (fun vs H Q E h => ?_) (fun cdv A outer s H vs Q E hr h => ?_)
  · obtain ⟨p, ad, S, a, ws, rfl, _⟩ := h
    rfl
  · obtain ⟨p, ad, S, a, ws, rfl, r, sm, x, k0, k1⟩ := h
    have hu := hu_of hr
    refine ⟨_, (pss_cons (ps_if (PW.pt (pw_or (pt_cmpR op_lt (pe_callB call_len_seq (by rfl) T.b_len (by decide +kernel) (pa_cons (pv 1) pa_nil)) pe_int (nomark _)) (pw_or (pt_cmpR op_gt (pe_callB call_len_seq (by rfl) T.b_len (by decide +kernel) (pa_cons (pv 1) pa_nil)) pe_int (nomark _)) (pw_or1 (pt_not (pt_val (pe_cc c__law_is_name hr (by decide) rfl (pa_cons (pe_ix ix_list (pv 1) pe_int (fun _ _ => rfl)) pa_nil)))))))) (pss_one (ps_ret pe_bl)) pss_nil)
      (pss_cons (ps_set (i := 2) sc__law_do_right.nd rfl (Or.inl rfl) (pe_lst pa_nil))
      (pss_cons (ps_for PassesOwn.never rfl (pi_list (pe_slice sl_list (pv 1) (po_some pe_int) po_none)) (pg_name (i := 3) sc__law_do_right.nd rfl (Or.inl rfl))
      (pss_cons (ps_set (i := 4) sc__law_do_right.nd rfl (Or.inl rfl) (pe_split (pv 3) pe_str))
      (pss_cons (ps_if (PW.pt (pw_or (pt_cmpR op_ne (pe_callB call_len_seq (by rfl) T.b_len (by decide +kernel) (pa_cons (pv 4) pa_nil)) pe_int (nomark _)) (pw_or (pt_cmp (pc_dnotin hu (pe_ix ix_list (pv 4) pe_int (fun _ _ => rfl)) (pe_dget hu (pv 0) pe_str (fun _ _ => rfl)))) (pw_or1 (pt_cmpR op_in_seq (pe_ix ix_list (pv 4) pe_int (fun _ _ => rfl)) (pv 2) rfl))))) (pss_one (ps_ret pe_bl)) pss_nil)
      (pss_cons (ps_if (PW.pt (pw_and (pt_cmpR op_ne (pe_ix ix_list (pv 4) pe_int (fun _ _ => rfl)) pe_str (nomark _)) (pw_and1 (pt_cmpR op_notIn_seq (pe_ix ix_list (pv 4) pe_int (fun _ _ => rfl)) (pe_dget hu (pe_dget hu (pv 0) pe_str (fun _ _ => rfl)) (pe_ix ix_list (pv 4) pe_int (fun _ _ => rfl)) (fun _ _ => rfl)) rfl)))) (pss_one (ps_ret pe_bl)) pss_nil)
      (pss_one (ps_expr (pe_bm PySem.F.plainAttrs_list PySem.F.slot_list_append PySem.F.type_list_append mt_append (pv 2) (pa_cons (pe_ix ix_list (pv 4) pe_int (fun _ _ => rfl)) pa_nil))))))))
      (pss_one (ps_ret pe_bl))))), ?_⟩
    show tSeq _ _ _ [some (V.ref p), some (V.ref a), none, none, none] H
    have g0 : ∀ {H : Hp}, LSAt H p ad S → DGet H p (.str "modes") (some (.ref (ad 0))) := fun r => dget_s r.dc (show valV (lsK ad) _ = some (.ref (ad 0)) from rfl)
    walk_at "rd"
    refine ⟨Or.inl (SqL.of x.at_), ?_⟩
    rw [List.length_map]
    walk_at "rd"
    refine x_D (fun h1 => ?_) (fun h1 => ?_)
    · walk_at "rd"
      refine k0 ?_ _ FrS.refl
      match ws, h1 with
      | [], _ => rfl
      | [_], _ => rfl
      | _ :: _ :: r, h => exact absurd h (by simp only [List.length_cons]; omega)
    obtain ⟨w0, n, r0, rfl⟩ : ∃ a b r, ws = a :: b :: r := by
      match ws, h1 with
      | [], h => exact absurd (by show ((0 : Nat) : Int) < 2; decide) h
      | [_], h => exact absurd (by show ((1 : Nat) : Int) < 2; decide) h
      | a :: b :: r, _ => exact ⟨a, b, r, rfl⟩
    have ke : lDoOk isName splE S (w0 :: n :: r0) = (decide (r0.length ≤ 6) && isName n && lItems splE S r0 []) := rfl
    have hln := x.el n (by simp)
    walk_at "rd"
    refine ⟨Or.inl (SqL.of x.at_), ?_⟩
    rw [List.length_map]
    walk_at "rd"
    refine x_D (fun h2 => ?_) (fun h2 => ?_)
    · walk_at "rd"
      refine k0 ?_ _ FrS.refl
      simp only [List.length_cons] at h2
      rw [ke, decide_eq_false (show ¬ r0.length ≤ 6 by omega)]
      rfl
    have h6 : r0.length ≤ 6 := by
      simp only [List.length_cons] at h2
      omega
    walk_at "rd"
    refine x_ixL (SqL.of x.at_) (atI_nat (j := 1) rfl) ?_
    walk_at "rd"
    refine ⟨n, rfl, hln, fun H1 s1 => ?_⟩
    replace r := r.same s1
    replace x := x.same s1
    have f1 : FrS ad H H1 := FrS.of s1
    walk_at "rd"
    refine x_NB (fun h3 => ?_) (fun h3 => ?_)
    · walk_at "rd"
      refine k0 ?_ _ f1
      rw [ke, h3]
      simp
    rw [decide_eq_true h6, h3] at ke
    walk_at "rd"
    intro d nd
    have hd : ∀ i < 5, d ≠ ad i := r.fresh nd
    have s2 := same_upd (o := .lst []) nd
    have d2 : upd H1 d (.lst []) d = some (.lst (([] : List Str).map V.str)) := upd_same
    have x1 := x
    have r1 := r
    replace r := r.same s2
    replace x := x.same s2
    generalize upd H1 d _ = H2 at r x d2 s2 ⊢
    walk_at "rd"
    refine x_slL (SqL.of x.at_) fun l nl => ?_
    have s3 := same_upd (o := .lst (cutV ((w0 :: n :: r0).map V.str) (some 2) none)) nl
    have l3 : upd H2 l (.lst (cutV ((w0 :: n :: r0).map V.str) (some 2) none)) l = some (.lst (r0.map V.str)) := by
      rw [upd_same]
      exact congrArg (fun z => some (HO.lst z)) (cutV_from _ 2)
    have hld : l ≠ d := Ne.symm (ne_of_none d2 nl)
    replace d2 := s3 _ _ d2
    have s12 := s2.trans s3
    clear s2 s3 r x
    generalize upd H2 l _ = H3 at d2 l3 s12 ⊢
    walk_at "rd"
    refine ⟨⟨_, SqL.of l3⟩, for_it (walk_list (xs := r0.map V.str)) (fun i σ H' => Hold (∃ (acc : List Str) (x3 x4 : Option V), σ = [some (V.ref p), some (V.ref a), some (V.ref d), x3, x4] ∧ H' d = some (.lst (acc.map V.str)) ∧ acc.length ≤ i ∧ lItems splE S r0 [] = lItems splE S (r0.drop i) acc ∧ ∀ b o, H3 b = some o → b ≠ d → H' b = some o))
      ⟨[], none, none, rfl, d2, Nat.le_refl _, rfl, fun _ _ e _ => e⟩ (fun i σ H' _ ⟨_, _, _, _, _, _, _, hfr⟩ => SqL.of (hfr _ _ l3 hld)) ?_ ?_⟩
    · rintro i v σ H' H'' hi ⟨acc, x3, x4, rfl, hda, hal, hdo, hfr⟩ ⟨rfl, hv⟩
      rw [List.getElem?_map] at hv
      obtain ⟨wd, hwd, rfl⟩ := Option.map_eq_some_iff.mp hv
      rw [drop_at hwd] at hdo
      have hwl := x1.el wd (List.mem_cons_of_mem _ (List.mem_cons_of_mem _ (List.mem_of_getElem? hwd)))
      have sH : Same H1 H'' := fun b o e => hfr _ _ (s12 _ _ e) (ne_of_none e nd)
      have hil : i < r0.length := by rw [List.length_map] at hi; exact hi
      walk_at "rd"
      refine ⟨by have := big5; omega, fun q nq => ?_⟩
      have s4 := same_upd (o := .lst ((PySem.Txt.split wd "=").map V.str)) nq
      have e4 : upd H'' q (.lst ((PySem.Txt.split wd "=").map V.str)) q = _ := upd_same
      have hqd : q ≠ d := Ne.symm (ne_of_none hda nq)
      have hda4 := s4 _ _ hda
      have sH4 := sH.trans s4
      have hfr4 : ∀ b o, H3 b = some o → b ≠ d → upd H'' q (.lst ((PySem.Txt.split wd "=").map V.str)) b = some o := fun b o e n => s4 _ _ (hfr b o e n)
      have hun : lItems splE S (wd :: r0.drop (i + 1)) acc = match splE wd with
        | [a, b] => (match look S.modes a with
          | none => false
          | some vs => !decide (a ∈ acc) && (decide (b = ("?" : Str)) || decide (b ∈ vs)) && lItems splE S (r0.drop (i + 1)) (acc ++ [a]))
        | _ => false := rfl
      rw [hun] at hdo
      clear hun
      unfold splE at hdo
      change lItems splE S r0 [] = _ at hdo
      generalize PySem.Txt.split wd "=" = ps at e4 hdo hda4 sH4 hfr4 s4 ⊢
      generalize upd H'' q _ = H4 at e4 hda4 sH4 hfr4 s4 ⊢
      have r4 := r1.same sH4
      have f4 := f1.trans (FrS.of (ad := ad) sH4)
      walk_at "rd"
      refine ⟨Or.inl (SqL.of e4), ?_⟩
      rw [List.length_map]
      walk_at "rd"
      refine x_ND (fun h1 => ?_) (fun h1 => ?_)
      · walk_at "rd"
        refine k0 ?_ _ f4
        rw [ke, hdo]
        match ps, h1 with
        | [], _ => rfl
        | [_], _ => rfl
        | [_, _], h => exact absurd rfl h
        | _ :: _ :: _ :: _, _ => rfl
      obtain ⟨u, b, rfl⟩ : ∃ a b, ps = [a, b] := by
        have h3 : ps.length = 2 := by have := V.int.inj h1; omega
        match ps, h3 with
        | [a, b], _ => exact ⟨a, b, rfl⟩
      replace hdo : lItems splE S r0 [] = (match look S.modes u with
          | none => false
          | some vs => !decide (u ∈ acc) && (decide (b = ("?" : Str)) || decide (b ∈ vs)) && lItems splE S (r0.drop (i + 1)) (acc ++ [u])) := hdo
      obtain ⟨ma, ema, hma⟩ := r4.t0
      walk_at "rd"
      refine x_ixL (SqL.of e4) (atI_nat (j := 0) rfl) ?_
      walk_at "rd"
      refine ⟨p, _, rfl, g0 r4, ?_⟩
      refine r_dninS (f := V.ref) ema ?_
      rw [hma.som]
      walk_at "rd"
      refine x_NB (fun h4 => ?_) (fun h4 => ?_)
      · walk_at "rd"
        refine k0 ?_ _ f4
        have hnone : look S.modes u = none := Option.not_isSome_iff_eq_none.mp (by rw [h4]; decide)
        rw [ke, hdo, hnone]
        rfl
      obtain ⟨av, hav⟩ := Option.isSome_iff_exists.mp ((hma.som u).trans h4)
      obtain ⟨vs, hvs, evs, nvs⟩ := hma.val u av hav
      rw [hvs] at hdo
      walk_at "rd"
      refine x_ixL (SqL.of e4) (atI_nat (j := 0) rfl) ?_
      walk_at "rd"
      refine x_inS (SqL.of hda4) ?_
      walk_at "rd"
      refine x_D (fun h5 => ?_) (fun h5 => ?_)
      · walk_at "rd"
        refine k0 ?_ _ f4
        rw [ke, hdo]
        show (true && true && (!decide (u ∈ acc) && _ && _)) = false
        rw [decide_eq_true h5]
        rfl
      have hdo2 : lItems splE S r0 [] = ((decide (b = ("?" : Str)) || decide (b ∈ vs)) && lItems splE S (r0.drop (i + 1)) (acc ++ [u])) := by
        rw [hdo]
        show (!decide (u ∈ acc) && _ && _) = _
        rw [decide_eq_false h5]
        rfl
      have nxt : ∀ H5, H4 = H5 → (decide (b = ("?" : Str)) || decide (b ∈ vs)) = true → ∃ (acc' : List Str) (x3 x4 : Option V), [some (V.ref p), some (V.ref a), some (V.ref d), some (V.str wd), some (V.ref q)] = [some (V.ref p), some (V.ref a), some (V.ref d), x3, x4] ∧ upd H5 d (.lst (acc.map V.str ++ [V.str u])) d = some (.lst (acc'.map V.str)) ∧ acc'.length ≤ i + 1 ∧ lItems splE S r0 [] = lItems splE S (r0.drop (i + 1)) acc' ∧ ∀ b o, H3 b = some o → b ≠ d → upd H5 d (.lst (acc.map V.str ++ [V.str u])) b = some o := by
        rintro H5 rfl hc
        refine ⟨acc ++ [u], _, _, rfl, by rw [upd_same, List.map_append]; rfl, by rw [List.length_append]; exact Nat.succ_le_succ hal, by rw [hdo2, hc]; rfl, fun b o e n => by rw [upd_ne n]; exact hfr4 b o e n⟩
      have hsz : (acc.map V.str).length < sizeLine := by rw [List.length_map]; have := big5; omega
      walk_at "rd"
      refine x_ixL (SqL.of e4) (atI_nat (j := 1) rfl) ?_
      walk_at "rd"
      refine x_ND (fun h7 => ?_) (fun h7 => ?_)
      · have hq : decide (b = ("?" : Str)) = false := decide_eq_false fun z => h7 (by rw [z])
        walk_at "rd"
        refine x_ixL (SqL.of e4) (atI_nat (j := 1) rfl) ?_
        walk_at "rd"
        refine ⟨p, _, rfl, g0 r4, ?_⟩
        walk_at "rd"
        refine x_ixL (SqL.of e4) (atI_nat (j := 0) rfl) ?_
        refine r_getS (f := V.ref) ema hav ?_
        refine x_notInS (SqL.of evs) ?_
        walk_at "rd"
        refine x_ND (fun h8 => ?_) (fun h8 => ?_)
        · walk_at "rd"
          refine k0 ?_ _ f4
          rw [ke, hdo2, hq, decide_eq_false h8]
          rfl
        walk_at "rd"
        refine ⟨Or.inl ⟨rfl, _, SqL.of hda4⟩, ?_⟩
        walk_at "rd"
        refine x_ixL (SqL.of e4) (atI_nat (j := 0) rfl) ?_
        walk_at "rd"
        refine ⟨d, _, V.str u, rfl, rfl, hda4, hsz, ?_⟩
        walk_at "rd"
        exact ⟨nxt _ rfl (by rw [decide_eq_true h8]; simp)⟩
      · walk_at "rd"
        refine ⟨Or.inl ⟨rfl, _, SqL.of hda4⟩, ?_⟩
        walk_at "rd"
        refine x_ixL (SqL.of e4) (atI_nat (j := 0) rfl) ?_
        walk_at "rd"
        refine ⟨d, _, V.str u, rfl, rfl, hda4, hsz, ?_⟩
        walk_at "rd"
        exact ⟨nxt _ rfl (by rw [decide_eq_true (V.str.inj h7)]; simp)⟩
    · rintro σ H' ⟨acc, x3, x4, rfl, hda, hal, hdo, hfr⟩
      rw [List.length_map, List.drop_of_length_le (Nat.le_refl _)] at hdo
      have sH : Same H1 H' := fun b o e => hfr _ _ (s12 _ _ e) (ne_of_none e nd)
      walk_at "rd"
      exact k1 (by rw [ke, hdo]; rfl) _ (f1.trans (FrS.of sH)) (r1.same sH)
end
end MP
end
section
open PySem L2 MPX MP
local macro_rules | `(tactic| walk_at "rd1") => `(tactic| first
  | with_reducible refine x_seq ?_
  | with_reducible refine x_next ?_
  | with_reducible refine x_ret ?_
  | with_reducible refine x_retN ?_
  | with_reducible refine x_ifs ?_
  | with_reducible refine x_asg ?_
  | with_reducible refine x_drop ?_
  | with_reducible refine x_name ?_
  | ((with_reducible refine' x_var ?vv ?_); (case vv => exact rfl))
  | with_reducible refine x_c ?_
  | with_reducible refine x_op ?_
  | with_reducible refine x_un ?_
  | with_reducible refine x_test ?_
  | with_reducible refine x_tB ?_
  | with_reducible refine x_and ?_
  | with_reducible refine x_or ?_
  | with_reducible refine x_not ?_
  | with_reducible refine x_andV ?_
  | with_reducible refine x_orV ?_
  | with_reducible refine x_notV ?_
  | with_reducible refine x_if ?_
  | with_reducible refine x_nil ?_
  | with_reducible refine x_cons ?_
  | with_reducible refine x_tup ?_
  | with_reducible refine x_lst ?_
  | with_reducible refine x_cb ?_
  | with_reducible refine x_call ?_
  | with_reducible refine x_callS ?_
  | with_reducible refine x_callP ?_
  | with_reducible refine x_mk0 ?_
  | with_reducible refine x_mk1 ?_
  | with_reducible refine x_mk2 ?_
  | with_reducible refine x_make ?_
  | with_reducible refine x_sfld ?_
  | with_reducible refine x_din ?_
  | with_reducible refine x_dnin ?_
  | with_reducible refine x_fldS ?_
  | with_reducible refine x_sl3 ?_
  | ((with_reducible refine' r_rd ?vr ?vt ?vm ?vl ?vq); (case vr => (with_reducible assumption)); (case vt => assumption); (case vm => decide +kernel); (case vl => exact rfl))
  | with_reducible refine x_m0 ?_
  | with_reducible refine x_m1 ?_
  | with_reducible refine x_bm0 ?_
  | with_reducible refine x_bm ?_
  | with_reducible refine x_par ?_
  | with_reducible refine x_ilist ?_
  | with_reducible refine x_itup ?_
  | with_reducible refine x_istr ?_
  | ((with_reducible show tLc _ _ _ _ _ _ _ _); unfold tLc)
  | ((with_reducible show tFor _ _ _ _ _ _); unfold tFor)
  | ((with_reducible refine' x_eq ?vv ?_); (case vv => exact rfl))
  | ((with_reducible refine' x_ne ?vv ?_); (case vv => exact rfl))
  | with_reducible refine x_rI0 ?_
  | with_reducible refine x_dgetR ?_
  | with_reducible refine x_dputR ?_
  | with_reducible refine x_dnew ?_
  | with_reducible refine x_dget1 ?_
  | with_reducible refine x_dget2 ?_
  | with_reducible refine x_sl ?_
  | with_reducible refine x_nopart ?_
  | with_reducible refine x_part ?_
  | ((with_reducible refine' x_slL ?vv ?_); (case vv => (with_reducible assumption)))
  | with_reducible refine x_disp ?_
  | with_reducible refine x_pcons ?_
  | with_reducible refine x_pnil ?_
  | ((with_reducible refine' x_mod ?vv ?_); (case vv => omega); intro r er hr0 hr1)
  | ((with_reducible refine' x_rI ?vv ?_); (case vv => walk_at "sc"))
  | (with_reducible refine Or.inl (Exists.intro _ (And.intro rfl ?_)))
  | with_reducible refine x_T ?_
  | with_reducible refine x_F ?_
  | ((with_reducible show Exists (α := V) _); (with_reducible apply Exists.intro))
  | ((with_reducible show Exists (α := Bool) _); (with_reducible apply Exists.intro))
  | ((with_reducible show Exists (α := Nat) _); (with_reducible apply Exists.intro))
  | ((with_reducible show Exists (α := Int) _); (with_reducible apply Exists.intro))
  | ((with_reducible show Exists (α := List V) _); (with_reducible apply Exists.intro))
  | ((with_reducible show Exists (α := PySem.Str) _); (with_reducible apply Exists.intro))
  | ((with_reducible show Exists (α := Option V) _); (with_reducible apply Exists.intro))
  | ((with_reducible show Exists (α := Option Int) _); (with_reducible apply Exists.intro))
  | ((with_reducible show Exists (α := List (Key × V)) _); (with_reducible apply Exists.intro))
  | refine And.intro rfl ?_
  | ((with_reducible refine And.intro ?vv ?_); (case vv => (first | (with_reducible assumption) | (show _ ≤ sizeLine; decide) | exact len_ok rfl)))
  | (refine And.intro (Exists.intro _ rfl) ?_))
local macro_rules | `(tactic| walk_at "sc") => `(tactic| first
  | (with_reducible assumption)
  | exact divW (by omega) (by omega)
  | exact mulW (by omega) (by omega)
  | exact Or.inl ⟨by omega, by omega⟩
  | exact Or.inr ⟨by omega, by omega⟩
  | (show (_ : Int) ≠ 0; omega)
  | exact ⟨by decide, by decide, by decide⟩
  | decide)
local macro_rules | `(tactic| walk_at "rd") => `(tactic| repeat walk_at "rd1")
namespace MP
open PySem L2 MPX
section
variable {P : Program} {w : World} {K : PySem.W.Frag} {mg : Str → Option Value} {base : Heap}
abbrev s__law_inside_right : Stmt := topS 57
abbrev N__law_inside_right : List Str := ["_law_s", "_law_words", "_law_stack", "_law_kind"]
abbrev P__law_inside_right : List Str := ["_law_s", "_law_words"]
theorem sc__law_inside_right : FnScope N__law_inside_right P__law_inside_right (defScope s__law_inside_right) := ⟨rfl, rfl, rfl, by decide +kernel, rfl, by decide +kernel, by decide +kernel⟩
abbrev s__law_line_right : Stmt := topS 58
abbrev N__law_line_right : List Str := ["_law_s", "_law_words"]
abbrev P__law_line_right : List Str := ["_law_s", "_law_words"]
theorem sc__law_line_right : FnScope N__law_line_right P__law_line_right (defScope s__law_line_right) := ⟨rfl, rfl, rfl, by decide +kernel, rfl, by decide +kernel, by decide +kernel⟩
theorem LsPost.fin {p : Addr} {ad : Nat → Addr} {H H' : Hp} {b b' : Bool} {S : LS} {Q : VK} (h : LsPost p ad H b S Q) (e : b' = b) (f : FrS ad H H') (r : b = true → LSAt H' p ad S) : Q (.bl b') H' := by
  subst e
  cases b' with
  | true => exact h.2 rfl H' f (r rfl)
  | false => exact h.1 rfl H' f
theorem LsPost.of {p : Addr} {ad : Nat → Addr} {H H1 : Hp} {b b' : Bool} {S S' : LS} {Q : VK} (h : LsPost p ad H b S Q) (f : FrS ad H H1) (e1 : b = b') (e2 : S = S') : LsPost p ad H1 b' S' Q := by
  subst e1
  subst e2
  exact ⟨fun z H' g => h.1 z H' (f.trans g), fun z H' g r => h.2 z H' (f.trans g) r⟩
def sp_l_ins (K : PySem.W.Frag) : Sp := fun vs H Q _ => ∃ (p : Addr) (ad : Nat → Addr) (S : LS) (a : Addr) (k : Str) (r0 : List Str), vs = [.ref p, .ref a] ∧ LSAt H p ad S ∧ SmS S ∧ WdS K H ad a (k :: r0) ∧ LsPost p ad H (lInsOk isName splE S (k :: r0)) (lInsSt S (k :: r0)) Q
theorem ok_l_ins {f : Addr} {fd : FuncData} (F : Fun K "_law_inside_right" "_law_inside_right" s__law_inside_right f fd) (T : LwT mg) (c__law_is_name : Cal P w K mg base 1 "_law_is_name" sp_l_name) (c__law_do_right : Cal P w K mg base 2 "_law_do_right" (sp_l_do K)) :
    FnOk P w K mg base CX0 3 f fd P__law_inside_right (sp_l_ins K) := by
  refine F.ok sc__law_inside_right (fun vs H Q E h => ?_) (fun cdv A outer s H vs Q E hr h => ?_)
  · obtain ⟨p, ad, S, a, k, r0, rfl, _⟩ := h
    rfl
  · obtain ⟨p, ad, S, a, k, r0, rfl, r, sm, x, kk⟩ := h
    have hu := hu_of hr
    refine ⟨_, (pss_cons (ps_par (i := 2) (j := 3) (by rfl) sc__law_inside_right.nd rfl rfl (by decide) rfl rfl (pa_cons (pe_dget hu (pv 0) pe_str (fun _ _ => rfl)) (pa_cons (pe_ix ix_list (pv 1) pe_int (fun _ _ => rfl)) pa_nil)) (by rfl))
      (pss_cons (ps_if (pt_cmpR (op_eqE hr.units) (pv 2) (pe_lst pa_nil) (nomark _)) (pss_one (ps_ret pe_bl)) pss_nil)
      (pss_cons (ps_if (pt_cmpR op_eq (pv 3) pe_str (nomark _)) (pss_one (ps_ret (pe_cc c__law_do_right hr (by decide) rfl (pa_cons (pv 0) (pa_cons (pv 1) pa_nil))))) pss_nil)
      (pss_cons (ps_if (pt_cmpR op_eq (pv 3) pe_str (nomark _)) (pss_cons (ps_expr (pe_bm PySem.F.plainAttrs_list PySem.F.slot_list_append PySem.F.type_list_append mt_append (pe_dget hu (pv 0) pe_str (fun _ _ => rfl)) (pa_cons (pe_ix ix_list (pv 1) pe_neg1 (fun _ _ => rfl)) pa_nil)))
      (pss_one (ps_ret (pe_and (pe_cmpR op_eq (pe_callB call_len_seq (by rfl) T.b_len (by decide +kernel) (pa_cons (pv 1) pa_nil)) pe_int (nomark _)) (pe_and (pe_cc c__law_is_name hr (by decide) rfl (pa_cons (pe_ix ix_list (pv 1) pe_int (fun _ _ => rfl)) pa_nil)) (pe_one (pe_cmpR op_ne (pe_ix ix_list (pv 1) pe_int (fun _ _ => rfl)) pe_str (nomark _)))))))) pss_nil)
      (pss_cons (ps_if (pt_cmpR op_ne (pe_callB call_len_seq (by rfl) T.b_len (by decide +kernel) (pa_cons (pv 1) pa_nil)) pe_int (nomark _)) (pss_one (ps_ret pe_bl)) pss_nil)
      (pss_cons (ps_if (pt_cmpR op_in_seq (pv 3) (pe_lst (pa_cons pe_str (pa_cons pe_str (pa_cons pe_str pa_nil)))) rfl) (pss_cons (ps_expr (pe_bm PySem.F.plainAttrs_list PySem.F.slot_list_append PySem.F.type_list_append mt_append (pv 2) (pa_cons (pv 3) pa_nil)))
      (pss_one (ps_ret (pe_cmpR op_le (pe_callB call_len_seq (by rfl) T.b_len (by decide +kernel) (pa_cons (pv 2) pa_nil)) pe_int (nomark _))))) pss_nil)
      (pss_cons (ps_if (pt_cmpR op_eq (pv 3) pe_str (nomark _)) (pss_cons (ps_expr (pe_bm0 PySem.F.plainAttrs_list PySem.F.slot_list_pop PySem.F.type_list_pop mt_pop (pv 2)))
      (pss_one (ps_ret pe_bl))) pss_nil)
      (pss_cons (ps_if (pt_cmpR op_eq (pv 3) pe_str (nomark _)) (pss_one (ps_ret (pe_cmpR op_eq (pe_ix ix_list (pv 2) pe_neg1 (fun _ _ => rfl)) pe_str (nomark _)))) pss_nil)
      (pss_one (ps_ret (pe_or (pe_cmpR op_in_seq (pv 3) (pe_lst (pa_cons pe_str (pa_cons pe_str pa_nil))) rfl) (pe_one (pe_and (pe_cmpR op_eq (pv 3) pe_str (nomark _)) (pe_one (pe_cmpR op_in_seq pe_str (pv 2) rfl))))))))))))))), ?_⟩
    show tSeq _ _ _ [some (V.ref p), some (V.ref a), none, none] H
    walk_at "rd"
    refine ⟨p, _, rfl, dget_s r.dc (show valV (lsK ad) _ = some (.ref (ad 3)) from rfl), ?_⟩
    walk_at "rd"
    refine x_ixL (SqL.of x.at_) (atI_nat (j := 0) rfl) ?_
    walk_at "rd"
    intro e ne
    have s1 : Same H (upd H e (.lst [])) := same_upd ne
    refine x_eqE (SqL.of (s1 _ _ r.t3)) upd_same ?_
    rw [List.isEmpty_map]
    replace r := r.same s1
    replace x := x.same s1
    have f1 : FrS ad H _ := FrS.of s1
    clear s1
    generalize upd H e _ = H1 at r x f1 ⊢
    replace kk := kk.of f1 rfl rfl
    clear f1 ne
    walk_at "rd"
    refine x_B (fun h0 => ?_) (fun h0 => ?_)
    · walk_at "rd"
      exact kk.fin (if_pos (List.isEmpty_iff.mp h0)).symm FrS.refl fun z => by rw [show lInsOk isName splE S (k :: r0) = false from if_pos (List.isEmpty_iff.mp h0)] at z; cases z
    have hst : ¬ S.stack = [] := fun z => by rw [z] at h0; cases h0
    have ke : lInsOk isName splE S (k :: r0) = _ := if_neg hst
    walk_at "rd"
    refine x_D (fun h1 => ?_) (fun h1 => ?_)
    · replace h1 := V.str.inj h1
      walk_at "rd"
      exact ⟨p, ad, S, a, k :: r0, rfl, r, sm, x, kk.of FrS.refl (ke.trans (if_pos h1)) (if_pos h1)⟩
    have n1 : ¬ k = ("do" : Str) := fun z => h1 (by rw [z])
    replace ke := ke.trans (if_neg n1)
    have ks : lInsSt S (k :: r0) = _ := if_neg n1
    walk_at "rd"
    refine x_D (fun h2 => ?_) (fun h2 => ?_)
    · replace h2 := V.str.inj h2
      replace ke := ke.trans (if_pos h2)
      replace ks := ks.trans (if_pos h2)
      obtain ⟨lw, hlw⟩ : ∃ l, (k :: r0).getLast? = some l := by
        cases e : (k :: r0).getLast? with
        | none => cases List.getLast?_eq_none_iff.mp e
        | some z => exact ⟨z, rfl⟩
      rw [hlw] at ks
      walk_at "rd"
      refine ⟨p, _, rfl, dget_s r.dc (show valV (lsK ad) _ = some (.ref (ad 4)) from rfl), ?_⟩
      refine ⟨Or.inl ⟨rfl, _, SqL.of r.t4⟩, ?_⟩
      walk_at "rd"
      refine x_ixL (SqL.of x.at_) (at_last (by rw [List.getLast?_map, hlw]; rfl)) ?_
      walk_at "rd"
      refine ⟨ad 4, _, V.str lw, rfl, rfl, r.t4, by rw [List.length_map]; have := sm.s4; have := big5; omega, ?_⟩
      rw [show S.called.map V.str ++ [V.str lw] = (S.called ++ [lw]).map V.str from by rw [List.map_append]; rfl]
      have r2 := r.put4 (S.called ++ [lw])
      have f2 : FrS ad H1 _ := FrS.put (ad := ad) (H := H1) (o := .lst ((S.called ++ [lw]).map V.str)) (i := 4) (by decide)
      have x2 := x.fro f2
      generalize upd H1 (ad 4) _ = H2 at r2 f2 x2 ⊢
      replace r2 : LSAt H2 p ad (lInsSt S (k :: r0)) := ks ▸ r2
      replace kk := kk.of f2 ke rfl
      walk_at "rd"
      refine ⟨Or.inl (SqL.of x2.at_), ?_⟩
      rw [List.length_map]
      walk_at "rd"
      refine x_D (fun h3 => ?_) (fun h3 => ?_)
      · obtain ⟨n, rfl⟩ : ∃ n, r0 = [n] := by
          have h4 : (k :: r0).length = 2 := by have := V.int.inj h3; omega
          match r0, h4 with
          | [n], _ => exact ⟨n, rfl⟩
        walk_at "rd"
        refine x_ixL (SqL.of x2.at_) (atI_nat (j := 1) rfl) ?_
        walk_at "rd"
        refine ⟨n, rfl, x.el n (by simp), fun H3 s3 => ?_⟩
        replace r2 := r2.same s3
        replace x2 := x2.same s3
        walk_at "rd"
        have ek : okCall isName [n] = (isName n && !decide (n = ("main" : Str))) := rfl
        refine x_B (fun h5 => ?_) (fun h5 => ?_)
        · walk_at "rd"
          refine x_ixL (SqL.of x2.at_) (atI_nat (j := 1) rfl) ?_
          walk_at "rd"
          refine kk.fin ?_ (FrS.of s3) fun _ => r2
          rw [ek, h5]
          by_cases z : n = ("main" : Str)
          · rw [decide_eq_true z, decide_eq_true (show V.str n = V.str "main" by rw [z])]
            rfl
          · rw [decide_eq_false z, decide_eq_false (fun q => z (V.str.inj q))]
            rfl
        · walk_at "rd"
          refine kk.fin ?_ (FrS.of s3) fun _ => r2
          rw [ek, h5]
          rfl
      · walk_at "rd"
        refine kk.fin ?_ FrS.refl fun _ => r2
        match r0, h3 with
        | [], _ => rfl
        | [_], h => exact absurd rfl h
        | _ :: _ :: _, _ => rfl
    have n2 : ¬ k = ("call" : Str) := fun z => h2 (by rw [z])
    replace ke := ke.trans (if_neg n2)
    replace ks := ks.trans (if_neg n2)
    walk_at "rd"
    refine ⟨Or.inl (SqL.of x.at_), ?_⟩
    rw [List.length_map]
    walk_at "rd"
    refine x_ND (fun h3 => ?_) (fun h3 => ?_)
    · walk_at "rd"
      have hr0 : ¬ r0 = [] := fun z => h3 (by rw [z]; rfl)
      exact kk.fin (ke.trans (if_pos hr0)).symm FrS.refl fun z => by rw [ke.trans (if_pos hr0)] at z; cases z
    have hr0 : r0 = [] := by
      have h4 : (k :: r0).length = 1 := by have := V.int.inj h3; omega
      match r0, h4 with
      | [], _ => rfl
    replace ke := ke.trans (if_neg (not_not_intro hr0))
    clear h3
    walk_at "rd"
    intro q nq
    have s2 := same_upd (o := .lst [.str "either", .str "loop", .str "ever"]) nq
    have e2 : upd H1 q (.lst [.str "either", .str "loop", .str "ever"]) q = some (.lst ((["either", "loop", "ever"] : List Str).map V.str)) := upd_same
    replace r := r.same s2
    replace x := x.same s2
    replace kk := kk.of (FrS.of s2) rfl rfl
    clear s2
    generalize upd H1 q _ = H2 at r x e2 kk ⊢
    refine x_inS (SqL.of e2) ?_
    walk_at "rd"
    refine x_D (fun h4 => ?_) (fun h4 => ?_)
    · replace ke := ke.trans (if_pos h4)
      replace ks := ks.trans (if_pos h4)
      walk_at "rd"
      refine ⟨Or.inl ⟨rfl, _, SqL.of r.t3⟩, ?_⟩
      walk_at "rd"
      refine ⟨ad 3, _, V.str k, rfl, rfl, r.t3, by rw [List.length_map]; have := sm.s3; have := big5; omega, ?_⟩
      rw [show S.stack.map V.str ++ [V.str k] = (S.stack ++ [k]).map V.str from by rw [List.map_append]; rfl]
      have r2 := r.put3 (S.stack ++ [k])
      have f2 : FrS ad H2 _ := FrS.put (ad := ad) (H := H2) (o := .lst ((S.stack ++ [k]).map V.str)) (i := 3) (by decide)
      generalize upd H2 (ad 3) _ = H3 at r2 f2 ⊢
      walk_at "rd"
      refine ⟨Or.inl (SqL.of r2.t3), ?_⟩
      rw [List.length_map]
      walk_at "rd"
      refine kk.fin ?_ f2 fun _ => ks ▸ r2
      rw [ke]
      show decide (((S.stack ++ [k]).length : Int) ≤ 9) = decide (S.stack.length + 1 ≤ 9)
      rw [List.length_append]
      by_cases z : S.stack.length + 1 ≤ 9
      · rw [decide_eq_true z, decide_eq_true (by show ((S.stack.length + 1 : Nat) : Int) ≤ 9; omega)]
      · rw [decide_eq_false z, decide_eq_false (by show ¬ ((S.stack.length + 1 : Nat) : Int) ≤ 9; omega)]
    replace ke := ke.trans (if_neg h4)
    replace ks := ks.trans (if_neg h4)
    walk_at "rd"
    refine x_D (fun h5 => ?_) (fun h5 => ?_)
    · replace h5 := V.str.inj h5
      replace ke := ke.trans (if_pos h5)
      replace ks := ks.trans (if_pos h5)
      obtain ⟨lw, hlw⟩ : ∃ l, S.stack.getLast? = some l := by
        cases e : S.stack.getLast? with
        | none => exact absurd (List.getLast?_eq_none_iff.mp e) hst
        | some z => exact ⟨z, rfl⟩
      walk_at "rd"
      refine ⟨Or.inl ⟨rfl, _, SqL.of r.t3⟩, ad 3, S.stack.map V.str, V.str lw, rfl, rfl, r.t3, by rw [← List.getLast?_eq_getElem?, List.getLast?_map, hlw]; rfl, ?_⟩
      rw [show (S.stack.map V.str).dropLast = S.stack.dropLast.map V.str from List.map_dropLast.symm]
      have r2 := r.put3 S.stack.dropLast
      have f2 : FrS ad H2 _ := FrS.put (ad := ad) (H := H2) (o := .lst (S.stack.dropLast.map V.str)) (i := 3) (by decide)
      generalize upd H2 (ad 3) _ = H3 at r2 f2 ⊢
      walk_at "rd"
      exact kk.fin ke.symm f2 fun _ => ks ▸ r2
    have n5 : ¬ k = ("end" : Str) := fun z => h5 (by rw [z])
    replace ke := ke.trans (if_neg n5)
    replace ks := ks.trans (if_neg n5)
    replace kk := kk.of FrS.refl rfl ks
    walk_at "rd"
    refine x_D (fun h6 => ?_) (fun h6 => ?_)
    · replace h6 := V.str.inj h6
      replace ke := ke.trans (if_pos h6)
      obtain ⟨lw, hlw⟩ : ∃ l, S.stack.getLast? = some l := by
        cases e : S.stack.getLast? with
        | none => exact absurd (List.getLast?_eq_none_iff.mp e) hst
        | some z => exact ⟨z, rfl⟩
      walk_at "rd"
      refine x_ixL (SqL.of r.t3) (at_last (by rw [List.getLast?_map, hlw]; rfl)) ?_
      walk_at "rd"
      refine kk.fin ?_ FrS.refl fun _ => r
      rw [ke, hlw]
      by_cases z : lw = ("either" : Str)
      · rw [decide_eq_true (show V.str lw = V.str "either" by rw [z]), decide_eq_true (by rw [z])]
      · rw [decide_eq_false fun q => z (V.str.inj q), decide_eq_false fun q => z (Option.some.inj q)]
    have n6 : ¬ k = ("or" : Str) := fun z => h6 (by rw [z])
    replace ke := ke.trans (if_neg n6)
    walk_at "rd"
    intro q3 nq3
    have s3 := same_upd (o := .lst [.str "back", .str "stop"]) nq3
    have e3 : upd H2 q3 (.lst [.str "back", .str "stop"]) q3 = some (.lst ((["back", "stop"] : List Str).map V.str)) := upd_same
    replace r := r.same s3
    replace kk := kk.of (FrS.of s3) rfl rfl
    clear s3
    generalize upd H2 q3 _ = H3 at r e3 kk ⊢
    refine x_inS (SqL.of e3) ?_
    walk_at "rd"
    refine x_D (fun h7 => ?_) (fun h7 => ?_)
    · walk_at "rd"
      refine kk.fin ?_ FrS.refl fun _ => r
      rw [ke, decide_eq_true h7]
      rfl
    rw [decide_eq_false h7, Bool.false_or] at ke
    walk_at "rd"
    refine x_D (fun h8 => ?_) (fun h8 => ?_)
    · walk_at "rd"
      refine x_inS (SqL.of r.t3) ?_
      walk_at "rd"
      refine kk.fin ?_ FrS.refl fun _ => r
      rw [ke, decide_eq_true (V.str.inj h8)]
      rfl
    · walk_at "rd"
      refine kk.fin ?_ FrS.refl fun _ => r
      rw [ke, decide_eq_false (fun z => h8 (by rw [z]))]
      rfl
def sp_l_line (K : PySem.W.Frag) : Sp := fun vs H Q _ => ∃ (p : Addr) (ad : Nat → Addr) (S : LS) (a : Addr) (k : Str) (r0 : List Str), vs = [.ref p, .ref a] ∧ LSAt H p ad S ∧ SmS S ∧ WdS K H ad a (k :: r0) ∧ LsPost p ad H (lLineOk isName isPrice splE S (k :: r0)) (lLineSt S (k :: r0)) Q
theorem ok_l_line {f : Addr} {fd : FuncData} (F : Fun K "_law_line_right" "_law_line_right" s__law_line_right f fd) (T : LwT mg) (c__law_is_name : Cal P w K mg base 1 "_law_is_name" sp_l_name) (c__law_mode_right : Cal P w K mg base 2 "_law_mode_right" (sp_l_mode K))
    (c__law_start_right : Cal P w K mg base 1 "_law_start_right" (sp_l_start K)) (c__law_inside_right : Cal P w K mg base 3 "_law_inside_right" (sp_l_ins K)) : FnOk P w K mg base CX0 4 f fd P__law_line_right (sp_l_line K) := by
  refine F.ok sc__law_line_right (fun vs H Q E h => ?_) (fun cdv A outer s H vs Q E hr h => ?_)
  · obtain ⟨p, ad, S, a, k, r0, rfl, _⟩ := h
    rfl
  · obtain ⟨p, ad, S, a, k, r0, rfl, r, sm, x, kk⟩ := h
    have hu := hu_of hr
    refine ⟨_, (pss_cons (ps_if (pt_cmpR op_eq (pe_ix ix_list (pv 1) pe_int (fun _ _ => rfl)) pe_str (nomark _)) (pss_one (ps_ret (pe_cc c__law_mode_right hr (by decide) rfl (pa_cons (pv 0) (pa_cons (pv 1) pa_nil))))) pss_nil)
      (pss_cons (ps_if (pt_cmpR op_eq (pe_ix ix_list (pv 1) pe_int (fun _ _ => rfl)) pe_str (nomark _)) (pss_one (ps_ret (pe_cc c__law_start_right hr (by decide) rfl (pa_cons (pv 0) (pa_cons (pv 1) pa_nil))))) pss_nil)
      (pss_cons (ps_if (pt_cmpR op_ne (pe_ix ix_list (pv 1) pe_int (fun _ _ => rfl)) pe_str (nomark _)) (pss_one (ps_ret (pe_cc c__law_inside_right hr (by decide) rfl (pa_cons (pv 0) (pa_cons (pv 1) pa_nil))))) pss_nil)
      (pss_cons (ps_if (PW.pt (pw_or (pt_cmpR (op_neE hr.units) (pe_dget hu (pv 0) pe_str (fun _ _ => rfl)) (pe_lst pa_nil) (nomark _)) (pw_or (pt_cmpR op_ne (pe_callB call_len_seq (by rfl) T.b_len (by decide +kernel) (pa_cons (pv 1) pa_nil)) pe_int (nomark _)) (pw_or (pt_not (pt_val (pe_cc c__law_is_name hr (by decide) rfl (pa_cons (pe_ix ix_list (pv 1) pe_int (fun _ _ => rfl)) pa_nil)))) (pw_or1 (pt_cmpR op_in_seq (pe_ix ix_list (pv 1) pe_int (fun _ _ => rfl)) (pe_dget hu (pv 0) pe_str (fun _ _ => rfl)) rfl)))))) (pss_one (ps_ret pe_bl)) pss_nil)
      (pss_cons (ps_expr (pe_bm PySem.F.plainAttrs_list PySem.F.slot_list_append PySem.F.type_list_append mt_append (pe_dget hu (pv 0) pe_str (fun _ _ => rfl)) (pa_cons (pe_ix ix_list (pv 1) pe_int (fun _ _ => rfl)) pa_nil)))
      (pss_cons (ps_expr (pe_bm PySem.F.plainAttrs_list PySem.F.slot_list_append PySem.F.type_list_append mt_append (pe_dget hu (pv 0) pe_str (fun _ _ => rfl)) (pa_cons pe_str pa_nil)))
      (pss_one (ps_ret (pe_cmpR op_le (pe_callB call_len_seq (by rfl) T.b_len (by decide +kernel) (pa_cons (pe_dget hu (pv 0) pe_str (fun _ _ => rfl)) pa_nil)) pe_int (nomark _)))))))))), ?_⟩
    show tSeq _ _ _ [some (V.ref p), some (V.ref a)] H
    walk_at "rd"
    refine x_ixL (SqL.of x.at_) (atI_nat (j := 0) rfl) ?_
    walk_at "rd"
    refine x_D (fun h1 => ?_) (fun h1 => ?_)
    · replace h1 := V.str.inj h1
      walk_at "rd"
      exact ⟨p, ad, S, a, k :: r0, rfl, r, sm, x, kk.of FrS.refl (if_pos h1) (if_pos h1)⟩
    have n1 : ¬ k = ("mode" : Str) := fun z => h1 (by rw [z])
    walk_at "rd"
    refine x_ixL (SqL.of x.at_) (atI_nat (j := 0) rfl) ?_
    walk_at "rd"
    refine x_D (fun h2 => ?_) (fun h2 => ?_)
    · replace h2 := V.str.inj h2
      walk_at "rd"
      exact ⟨p, ad, S, a, k :: r0, rfl, r, sm, x, kk.of FrS.refl ((if_neg n1).trans (if_pos h2)) ((if_neg n1).trans (if_pos h2))⟩
    have n2 : ¬ k = ("start" : Str) := fun z => h2 (by rw [z])
    walk_at "rd"
    refine x_ixL (SqL.of x.at_) (atI_nat (j := 0) rfl) ?_
    walk_at "rd"
    refine x_ND (fun h3 => ?_) (fun h3 => ?_)
    · have n3 : ¬ k = ("proc" : Str) := fun z => h3 (by rw [z])
      walk_at "rd"
      exact ⟨p, ad, S, a, k, r0, rfl, r, sm, x, kk.of FrS.refl (((if_neg n1).trans (if_neg n2)).trans (if_neg n3)) (((if_neg n1).trans (if_neg n2)).trans (if_neg n3))⟩
    replace h3 := V.str.inj h3
    replace kk := kk.of FrS.refl (((if_neg n1).trans (if_neg n2)).trans (if_pos h3)) (((if_neg n1).trans (if_neg n2)).trans (if_pos h3))
    walk_at "rd"
    refine ⟨p, _, rfl, dget_s r.dc (show valV (lsK ad) _ = some (.ref (ad 3)) from rfl), ?_⟩
    walk_at "rd"
    intro e ne
    have s1 : Same H (upd H e (.lst [])) := same_upd ne
    refine x_neE (SqL.of (s1 _ _ r.t3)) upd_same ?_
    rw [List.isEmpty_map]
    replace r := r.same s1
    replace x := x.same s1
    replace kk := kk.of (FrS.of s1) rfl rfl
    clear s1
    generalize upd H e _ = H1 at r x kk ⊢
    clear ne
    walk_at "rd"
    have kf : lProcOk isName S (k :: r0) = false → Q (.bl false) H1 := fun z => kk.fin z.symm FrS.refl fun y => by rw [z] at y; cases y
    refine x_NB (fun h0 => ?_) (fun h0 => ?_)
    · walk_at "rd"
      refine kf ?_
      unfold lProcOk
      split
      · rw [h0]; rfl
      · rfl
    walk_at "rd"
    refine ⟨Or.inl (SqL.of x.at_), ?_⟩
    rw [List.length_map]
    walk_at "rd"
    refine x_ND (fun h4 => ?_) (fun h4 => ?_)
    · walk_at "rd"
      refine kf ?_
      match r0, h4 with
      | [], _ => rfl
      | [_], h => exact absurd rfl h
      | _ :: _ :: _, _ => rfl
    obtain ⟨n, rfl⟩ : ∃ n, r0 = [n] := by
      have h4 : (k :: r0).length = 2 := by have := V.int.inj h4; omega
      match r0, h4 with
      | [n], _ => exact ⟨n, rfl⟩
    have ek : lProcOk isName S [k, n] = (S.stack.isEmpty && isName n && !decide (n ∈ S.procs) && decide (S.procs.length + 1 ≤ 6)) := rfl
    rw [h0] at ek
    walk_at "rd"
    refine x_ixL (SqL.of x.at_) (atI_nat (j := 1) rfl) ?_
    walk_at "rd"
    refine ⟨n, rfl, x.el n (by simp), fun H2 s2 => ?_⟩
    replace r := r.same s2
    replace x := x.same s2
    replace kk := kk.of (FrS.of s2) rfl rfl
    clear s2 kf
    have kf : lProcOk isName S [k, n] = false → Q (.bl false) H2 := fun z => kk.fin z.symm FrS.refl fun y => by rw [z] at y; cases y
    walk_at "rd"
    refine x_NB (fun h5 => ?_) (fun h5 => ?_)
    · walk_at "rd"
      refine kf ?_
      rw [ek, h5]
      rfl
    walk_at "rd"
    refine x_ixL (SqL.of x.at_) (atI_nat (j := 1) rfl) ?_
    walk_at "rd"
    refine ⟨p, _, rfl, dget_s r.dc (show valV (lsK ad) _ = some (.ref (ad 2)) from rfl), ?_⟩
    refine x_inS (SqL.of r.t2) ?_
    walk_at "rd"
    refine x_D (fun h6 => ?_) (fun h6 => ?_)
    · walk_at "rd"
      refine kf ?_
      rw [ek, h5, decide_eq_true h6]
      rfl
    rw [h5, decide_eq_false h6] at ek
    walk_at "rd"
    refine ⟨p, _, rfl, dget_s r.dc (show valV (lsK ad) _ = some (.ref (ad 2)) from rfl), ?_⟩
    refine ⟨Or.inl ⟨rfl, _, SqL.of r.t2⟩, ?_⟩
    walk_at "rd"
    refine x_ixL (SqL.of x.at_) (atI_nat (j := 1) rfl) ?_
    walk_at "rd"
    refine ⟨ad 2, _, V.str n, rfl, rfl, r.t2, by rw [List.length_map]; have := sm.s2; have := big5; omega, ?_⟩
    rw [show S.procs.map V.str ++ [V.str n] = (S.procs ++ [n]).map V.str from by rw [List.map_append]; rfl]
    have r2 := r.put2 (S.procs ++ [n])
    have f2 : FrS ad H2 _ := FrS.put (ad := ad) (H := H2) (o := .lst ((S.procs ++ [n]).map V.str)) (i := 2) (by decide)
    generalize upd H2 (ad 2) _ = H3 at r2 f2 ⊢
    walk_at "rd"
    refine ⟨p, _, rfl, dget_s r2.dc (show valV (lsK ad) _ = some (.ref (ad 3)) from rfl), ?_⟩
    refine ⟨Or.inl ⟨rfl, _, SqL.of r2.t3⟩, ?_⟩
    walk_at "rd"
    refine ⟨ad 3, _, V.str "proc", rfl, rfl, r2.t3, by rw [List.length_map]; have := sm.s3; have := big5; show S.stack.length < _; omega, ?_⟩
    rw [show (S.stack.map V.str) ++ [V.str "proc"] = (S.stack ++ [("proc" : Str)]).map V.str from by rw [List.map_append]; rfl]
    have r3 := r2.put3 (S.stack ++ [("proc" : Str)])
    have f3 : FrS ad H3 _ := FrS.put (ad := ad) (H := H3) (o := .lst ((S.stack ++ [("proc" : Str)]).map V.str)) (i := 3) (by decide)
    replace f3 := f2.trans f3
    generalize upd H3 (ad 3) _ = H4 at r3 f3 ⊢
    walk_at "rd"
    refine ⟨p, _, rfl, dget_s r3.dc (show valV (lsK ad) _ = some (.ref (ad 2)) from rfl), ?_⟩
    walk_at "rd"
    refine ⟨Or.inl (SqL.of r3.t2), ?_⟩
    rw [List.length_map]
    walk_at "rd"
    refine kk.fin ?_ f3 fun _ => r3
    rw [ek]
    show decide (((S.procs ++ [n]).length : Int) ≤ 6) = decide (S.procs.length + 1 ≤ 6)
    rw [List.length_append]
    by_cases z : S.procs.length + 1 ≤ 6
    · rw [decide_eq_true z, decide_eq_true (by show ((S.procs.length + 1 : Nat) : Int) ≤ 6; omega)]
    · rw [decide_eq_false z, decide_eq_false (by show ¬ ((S.procs.length + 1 : Nat) : Int) ≤ 6; omega)]
end
end MP
end
section
open PySem L2 MPX MP
local macro_rules | `(tactic| walk_at "rd1") => `(tactic| first
  | with_reducible refine x_seq ?_
  | with_reducible refine x_next ?_
  | with_reducible refine x_ret ?_
  | with_reducible refine x_retN ?_
  | with_reducible refine x_ifs ?_
  | with_reducible refine x_asg ?_
  | with_reducible refine x_drop ?_
  | with_reducible refine x_name ?_
  | ((with_reducible refine' x_var ?vv ?_); (case vv => exact rfl))
  | with_reducible refine x_c ?_
  | with_reducible refine x_op ?_
  | with_reducible refine x_un ?_
  | with_reducible refine x_test ?_
  | with_reducible refine x_tB ?_
  | with_reducible refine x_and ?_
  | with_reducible refine x_or ?_
  | with_reducible refine x_not ?_
  | with_reducible refine x_andV ?_
  | with_reducible refine x_orV ?_
  | with_reducible refine x_notV ?_
  | with_reducible refine x_if ?_
  | with_reducible refine x_nil ?_
  | with_reducible refine x_cons ?_
  | with_reducible refine x_tup ?_
  | with_reducible refine x_lst ?_
  | with_reducible refine x_cb ?_
  | with_reducible refine x_call ?_
  | with_reducible refine x_callS ?_
  | with_reducible refine x_callP ?_
  | with_reducible refine x_mk0 ?_
  | with_reducible refine x_mk1 ?_
  | with_reducible refine x_mk2 ?_
  | with_reducible refine x_make ?_
  | with_reducible refine x_sfld ?_
  | with_reducible refine x_din ?_
  | with_reducible refine x_dnin ?_
  | with_reducible refine x_fldS ?_
  | with_reducible refine x_sl3 ?_
  | ((with_reducible refine' r_rd ?vr ?vt ?vm ?vl ?vq); (case vr => (with_reducible assumption)); (case vt => assumption); (case vm => decide +kernel); (case vl => exact rfl))
  | with_reducible refine x_m0 ?_
  | with_reducible refine x_m1 ?_
  | with_reducible refine x_bm0 ?_
  | with_reducible refine x_bm ?_
  | with_reducible refine x_par ?_
  | with_reducible refine x_ilist ?_
  | with_reducible refine x_itup ?_
  | with_reducible refine x_istr ?_
  | ((with_reducible show tLc _ _ _ _ _ _ _ _); unfold tLc)
  | ((with_reducible show tFor _ _ _ _ _ _); unfold tFor)
  | ((with_reducible refine' x_eq ?vv ?_); (case vv => exact rfl))
  | ((with_reducible refine' x_ne ?vv ?_); (case vv => exact rfl))
  | with_reducible refine x_rI0 ?_
  | with_reducible refine x_dgetR ?_
  | with_reducible refine x_dputR ?_
  | with_reducible refine x_dnew ?_
  | with_reducible refine x_dget1 ?_
  | with_reducible refine x_dget2 ?_
  | with_reducible refine x_sl ?_
  | with_reducible refine x_nopart ?_
  | with_reducible refine x_part ?_
  | ((with_reducible refine' x_slL ?vv ?_); (case vv => (with_reducible assumption)))
  | with_reducible refine x_disp ?_
  | with_reducible refine x_pcons ?_
  | with_reducible refine x_pnil ?_
  | ((with_reducible refine' x_mod ?vv ?_); (case vv => omega); intro r er hr0 hr1)
  | ((with_reducible refine' x_rI ?vv ?_); (case vv => walk_at "sc"))
  | (with_reducible refine Or.inl (Exists.intro _ (And.intro rfl ?_)))
  | with_reducible refine x_T ?_
  | with_reducible refine x_F ?_
  | ((with_reducible show Exists (α := V) _); (with_reducible apply Exists.intro))
  | ((with_reducible show Exists (α := Bool) _); (with_reducible apply Exists.intro))
  | ((with_reducible show Exists (α := Nat) _); (with_reducible apply Exists.intro))
  | ((with_reducible show Exists (α := Int) _); (with_reducible apply Exists.intro))
  | ((with_reducible show Exists (α := List V) _); (with_reducible apply Exists.intro))
  | ((with_reducible show Exists (α := PySem.Str) _); (with_reducible apply Exists.intro))
  | ((with_reducible show Exists (α := Option V) _); (with_reducible apply Exists.intro))
  | ((with_reducible show Exists (α := Option Int) _); (with_reducible apply Exists.intro))
  | ((with_reducible show Exists (α := List (Key × V)) _); (with_reducible apply Exists.intro))
  | refine And.intro rfl ?_
  | ((with_reducible refine And.intro ?vv ?_); (case vv => (first | (with_reducible assumption) | (show _ ≤ sizeLine; decide) | exact len_ok rfl)))
  | (refine And.intro (Exists.intro _ rfl) ?_))
local macro_rules | `(tactic| walk_at "sc") => `(tactic| first
  | (with_reducible assumption)
  | exact divW (by omega) (by omega)
  | exact mulW (by omega) (by omega)
  | exact Or.inl ⟨by omega, by omega⟩
  | exact Or.inr ⟨by omega, by omega⟩
  | (show (_ : Int) ≠ 0; omega)
  | exact ⟨by decide, by decide, by decide⟩
  | decide)
local macro_rules | `(tactic| walk_at "rd") => `(tactic| repeat walk_at "rd1")
namespace MP
open PySem L2 MPX
section
variable {P : Program} {w : World} {K : PySem.W.Frag} {mg : Str → Option Value} {base : Heap}
abbrev s__law_due : Stmt := topS 59
abbrev N__law_due : List Str := ["_law_text", "_law_lines_here", "_law_s", "_law_k", "_law_words", "_law_word_here", "_law_missing", "_law_name"]
abbrev P__law_due : List Str := ["_law_text"]
theorem sc__law_due : FnScope N__law_due P__law_due (defScope s__law_due) := ⟨rfl, rfl, rfl, by decide +kernel, rfl, by decide +kernel, by decide +kernel⟩
/-- a result of due and told -/
def resV : Option (Int ⊕ Str) → V → Hp → Prop
  | none, v, _ => v = .non
  | some (.inl l), v, H => ∃ t, v = .ref t ∧ H t = some (.tup [.str "bad text", .int l, .bl true])
  | some (.inr y), v, H => ∃ t, v = .ref t ∧ H t = some (.tup [.str "too many", .str y, .bl true])
theorem resV.same {r : Option (Int ⊕ Str)} {v : V} {H H' : Hp} (h : resV r v H) (s : Same H H') : resV r v H' := by
  match r, h with
  | none, h => exact h
  | some (.inl l), ⟨t, e, q⟩ => exact ⟨t, e, s _ _ q⟩
  | some (.inr y), ⟨t, e, q⟩ => exact ⟨t, e, s _ _ q⟩
structure GdS (n : Nat) (S : LS) : Prop where
  l0 : S.modes.length ≤ n
  l1 : S.starts.length ≤ n
  l2 : S.procs.length ≤ n
  l3 : S.stack.length ≤ n
  l4 : S.called.length ≤ n
theorem GdS.sm {n : Nat} {S : LS} (g : GdS n S) (h : n < 1000) : SmS S := by
  obtain ⟨l0, l1, l2, l3, l4⟩ := g
  exact ⟨by omega, by omega, by omega, by omega, by omega⟩
theorem GdS.up {n : Nat} {S : LS} (g : GdS n S) : GdS (n + 1) S := by
  obtain ⟨l0, l1, l2, l3, l4⟩ := g
  exact ⟨by omega, by omega, by omega, by omega, by omega⟩
theorem len1 {α : Type} {l : List α} {n : Nat} (x : α) (h : l.length ≤ n) : (l ++ [x]).length ≤ n + 1 := by
  rw [List.length_append]
  exact Nat.succ_le_succ h
theorem GdS.step {n : Nat} {S : LS} (g : GdS n S) (ws : List Str) : GdS (n + 1) (lLineSt S ws) := by
  have u := g.up
  match ws with
  | [] => exact u
  | k :: r =>
    by_cases h1 : k = ("mode" : Str)
    · rw [show lLineSt S (k :: r) = lModeSt S (k :: r) from if_pos h1]
      unfold lModeSt
      split
      · exact { u with l0 := len1 _ g.l0 }
      · exact u
    by_cases h2 : k = ("start" : Str)
    · rw [show lLineSt S (k :: r) = lStartSt S (k :: r) from (if_neg h1).trans (if_pos h2)]
      unfold lStartSt
      split
      · exact { u with l1 := len1 _ g.l1 }
      · exact u
    by_cases h3 : k = ("proc" : Str)
    · rw [show lLineSt S (k :: r) = lProcSt S (k :: r) from ((if_neg h1).trans (if_neg h2)).trans (if_pos h3)]
      unfold lProcSt
      split
      · exact { u with l2 := len1 _ g.l2, l3 := len1 _ g.l3 }
      · exact u
    rw [show lLineSt S (k :: r) = lInsSt S (k :: r) from ((if_neg h1).trans (if_neg h2)).trans (if_neg h3)]
    show GdS (n + 1) (if k = ("do" : Str) then S else if k = ("call" : Str) then { S with called := S.called ++ [((k :: r).getLast?).getD ""] } else if k ∈ (["either", "loop", "ever"] : List Str) then { S with stack := S.stack ++ [k] } else if k = ("end" : Str) then { S with stack := S.stack.dropLast } else S)
    by_cases n1 : k = ("do" : Str)
    · rw [if_pos n1]; exact u
    rw [if_neg n1]
    by_cases n2 : k = ("call" : Str)
    · rw [if_pos n2]; exact { u with l4 := len1 _ g.l4 }
    rw [if_neg n2]
    by_cases n3 : k ∈ (["either", "loop", "ever"] : List Str)
    · rw [if_pos n3]; exact { u with l3 := len1 _ g.l3 }
    rw [if_neg n3]
    by_cases n4 : k = ("end" : Str)
    · rw [if_pos n4]
      refine { u with l3 := ?_ }
      show S.stack.dropLast.length ≤ n + 1
      rw [List.length_dropLast]
      have := g.l3
      omega
    · rw [if_neg n4]; exact u
def ad5 (a b c d e : Addr) : Nat → Addr
  | 0 => a
  | 1 => b
  | 2 => c
  | 3 => d
  | _ => e
def sp_due : Sp := fun vs H Q _ => ∃ z : Str, vs = [.str z] ∧ z.length + 2 ≤ sizeLine ∧ ∀ v H', Same H H' → resV (dueM z) v H' → Q v H'
theorem ok_due {f : Addr} {fd : FuncData} (F : Fun K "_law_due" "_law_due" s__law_due f fd) (T : LwT mg) (c__law_line_right : Cal P w K mg base 4 "_law_line_right" (sp_l_line K)) : FnOk P w K mg base CX0 5 f fd P__law_due sp_due := by
  refine F.ok sc__law_due (fun vs H Q E h => ?_) (fun cdv A outer s H vs Q E hr h => ?_)
  · obtain ⟨z, rfl, _⟩ := h
    rfl
  · obtain ⟨z, rfl, hz, kk⟩ := h
    have hu := hu_of hr
    refine ⟨_, (pss_cons (ps_set (i := 1) sc__law_due.nd rfl (Or.inl rfl) (pe_split (pv 0) pe_str))
      (pss_cons (ps_if (PW.pt (pw_or (pt_cmpR op_gt (pe_callB call_len_str (by rfl) T.b_len (by decide +kernel) (pa_cons (pv 0) pa_nil)) pe_int (nomark _)) (pw_or1 (pt_cmpR op_gt (pe_callB call_len_seq (by rfl) T.b_len (by decide +kernel) (pa_cons (pv 1) pa_nil)) pe_int (nomark _))))) (pss_one (ps_ret (pe_tup (pa_cons pe_str (pa_cons (pe_ifExp (pt_cmpR op_gt (pe_callB call_len_str (by rfl) T.b_len (by decide +kernel) (pa_cons (pv 0) pa_nil)) pe_int (nomark _)) pe_str pe_str) (pa_cons pe_bl pa_nil)))))) pss_nil)
      (pss_cons (ps_set (i := 2) sc__law_due.nd rfl (Or.inr rfl) (pe_disp (pps_cons pe_str pe_dnewK (pps_cons pe_str (pe_lst pa_nil) (pps_cons pe_str (pe_lst pa_nil) (pps_cons pe_str (pe_lst pa_nil) (pps_cons pe_str (pe_lst pa_nil) pps_nil))))) (by rfl) (by rfl) (fun z => by cases z) (by decide)))
      (pss_cons (ps_for PassesOwn.never rfl (pi_range1 rfl T.b_range (pa_cons (pe_callB call_len_seq (by rfl) T.b_len (by decide +kernel) (pa_cons (pv 1) pa_nil)) pa_nil)) (pg_name (i := 3) sc__law_due.nd rfl (Or.inl rfl))
      (pss_cons (ps_setLc (i := 4) (own := [("_law_word_here", 5)]) (g := gName 5) rfl sc__law_due.nd rfl rfl (sw_true rfl rfl rfl (by decide +kernel)) (pi_list (pe_split (pe_ix ix_list (pv 1) (pv 3) (fun _ _ => rfl)) pe_str)) (blkOk_by (own := [("_law_word_here", 5)]) (N := N__law_due) (sc := defScope s__law_due) (by decide +kernel)) (fun _ _ _ _ _ => (pg_name (i := 5) sc__law_due.nd rfl (Or.inl rfl))) (fun _ _ _ _ _ => (pts_one (pt_cmpR op_ne (pv 5) pe_str (nomark _)))) (fun _ _ _ _ _ => (pv 5)))
      (pss_one (ps_if (PW.pt (pw_and (pt_cmpR (op_neE hr.units) (pv 4) (pe_lst pa_nil) (nomark _)) (pw_and1 (pt_not (pt_val (pe_cc c__law_line_right hr (by decide) rfl (pa_cons (pv 2) (pa_cons (pv 4) pa_nil)))))))) (pss_one (ps_ret (pe_tup (pa_cons pe_str (pa_cons (pe_op op_add (pv 3) pe_int) (pa_cons pe_bl pa_nil)))))) pss_nil))))
      (pss_cons (ps_setLc (i := 6) (own := [("_law_name", 7)]) (g := gName 7) rfl sc__law_due.nd rfl rfl (sw_true rfl rfl rfl (by decide +kernel)) (pi_list (pe_dget hu (pv 2) pe_str (fun _ _ => rfl))) (blkOk_by (own := [("_law_name", 7)]) (N := N__law_due) (sc := defScope s__law_due) (by decide +kernel)) (fun _ _ _ _ _ => (pg_name (i := 7) sc__law_due.nd rfl (Or.inl rfl))) (fun _ _ _ _ _ => (pts_one (pt_cmpR (op_ninK (rfl : _ = K)) (pv 7) (pe_dget hu (pv 2) pe_str (fun _ _ => rfl)) rfl))) (fun _ _ _ _ _ => (pv 7)))
      (pss_cons (ps_if (PW.pt (pw_or (pt_cmpR (op_neE hr.units) (pe_dget hu (pv 2) pe_str (fun _ _ => rfl)) (pe_lst pa_nil) (nomark _)) (pw_or (pt_cmpR op_notIn_seq pe_str (pe_dget hu (pv 2) pe_str (fun _ _ => rfl)) rfl) (pw_or1 (pt_cmpR (op_neE hr.units) (pv 6) (pe_lst pa_nil) (nomark _)))))) (pss_one (ps_ret (pe_tup (pa_cons pe_str (pa_cons (pe_op op_add (pe_callB call_len_seq (by rfl) T.b_len (by decide +kernel) (pa_cons (pv 1) pa_nil)) pe_int) (pa_cons pe_bl pa_nil)))))) pss_nil)
      (pss_one (ps_ret pe_non)))))))), ?_⟩
    show tSeq _ _ _ [some (V.str z), none, none, none, none, none, none, none] H
    have hz2 : z.length ≤ sizeLine := by omega
    walk_at "rd"
    intro lp nlp
    have s1 := same_upd (o := .lst ((PySem.Txt.split z "\n").map V.str)) nlp
    have e1 : upd H lp (.lst ((PySem.Txt.split z "\n").map V.str)) lp = some (.lst ((rowsOf z).map V.str)) := upd_same
    have hrl : ∀ row ∈ rowsOf z, row.length ≤ z.length := fun row hm => split_le (by decide +kernel) (by decide +kernel) hm
    generalize upd H lp _ = H1 at s1 e1 ⊢
    have hd : dueM z = if 6000 < z.length then some (.inr "characters") else if 120 < (rowsOf z).length then some (.inr "lines") else match runM z with | .inl l => some (.inl l) | .inr S => if lEnd S then none else some (.inl ((rowsOf z).length + 1)) := rfl
    walk_at "rd"
    refine x_D (fun h1 => ?_) (fun h1 => ?_)
    · walk_at "rd"
      refine x_D (fun _ => ?_) (fun h => absurd h1 h)
      walk_at "rd"
      intro t nt
      exact kk _ _ (s1.trans (same_upd nt)) (by rw [hd, if_pos (by omega)]; exact ⟨t, rfl, upd_same⟩)
    have h1' : ¬ 6000 < z.length := by omega
    rw [if_neg h1'] at hd
    walk_at "rd"
    refine ⟨Or.inl (SqL.of e1), ?_⟩
    rw [List.length_map]
    walk_at "rd"
    refine x_D (fun h2 => ?_) (fun h2 => ?_)
    · walk_at "rd"
      refine x_D (fun h => absurd h h1) (fun _ => ?_)
      walk_at "rd"
      intro t nt
      exact kk _ _ (s1.trans (same_upd nt)) (by rw [hd, if_pos (by omega)]; exact ⟨t, rfl, upd_same⟩)
    have h2' : ¬ 120 < (rowsOf z).length := by omega
    rw [if_neg h2'] at hd
    unfold runM at hd
    replace hrl : ∀ row ∈ rowsOf z, row.length ≤ 6000 := fun row hm => Nat.le_trans (hrl row hm) (by omega)
    have h120 : (rowsOf z).length ≤ 120 := by omega
    generalize rowsOf z = rows at e1 hd hrl h120 ⊢
    clear h1 h1' h2 h2'
    walk_at "rd"
    intro p np
    have sp := same_upd (o := .dK []) np
    have ep : upd H1 p (.dK []) p = _ := upd_same
    generalize upd H1 p _ = H2 at sp ep ⊢
    walk_at "rd"
    intro a0 n0
    have t0 := same_upd (o := .dK []) n0
    have q0 : upd H2 a0 (.dK []) a0 = _ := upd_same
    generalize upd H2 a0 _ = H3 at t0 q0 ⊢
    walk_at "rd"
    intro a1 n1
    have t1 := same_upd (o := .lst []) n1
    have q1 : upd H3 a1 (.lst []) a1 = _ := upd_same
    generalize upd H3 a1 _ = H4 at t1 q1 ⊢
    walk_at "rd"
    intro a2 n2
    have t2 := same_upd (o := .lst []) n2
    have q2 : upd H4 a2 (.lst []) a2 = _ := upd_same
    generalize upd H4 a2 _ = H5 at t2 q2 ⊢
    walk_at "rd"
    intro a3 n3
    have t3 := same_upd (o := .lst []) n3
    have q3 : upd H5 a3 (.lst []) a3 = _ := upd_same
    generalize upd H5 a3 _ = H6 at t3 q3 ⊢
    walk_at "rd"
    intro a4 n4
    have t4 := same_upd (o := .lst []) n4
    have q4 : upd H6 a4 (.lst []) a4 = _ := upd_same
    generalize upd H6 a4 _ = H7 at t4 q4 ⊢
    walk_at "rd"
    have ne01 : a1 ≠ a0 := Ne.symm (ne_of_none q0 n1)
    have ne02 : a2 ≠ a0 := Ne.symm (ne_of_none (t1 _ _ q0) n2)
    have ne03 : a3 ≠ a0 := Ne.symm (ne_of_none (t2 _ _ (t1 _ _ q0)) n3)
    have ne04 : a4 ≠ a0 := Ne.symm (ne_of_none (t3 _ _ (t2 _ _ (t1 _ _ q0))) n4)
    have ne12 : a2 ≠ a1 := Ne.symm (ne_of_none q1 n2)
    have ne13 : a3 ≠ a1 := Ne.symm (ne_of_none (t2 _ _ q1) n3)
    have ne14 : a4 ≠ a1 := Ne.symm (ne_of_none (t3 _ _ (t2 _ _ q1)) n4)
    have ne23 : a3 ≠ a2 := Ne.symm (ne_of_none q2 n3)
    have ne24 : a4 ≠ a2 := Ne.symm (ne_of_none (t3 _ _ q2) n4)
    have ne34 : a4 ≠ a3 := Ne.symm (ne_of_none q3 n4)
    have np0 : p ≠ a0 := ne_of_none ep n0
    have np1 : p ≠ a1 := ne_of_none (t0 _ _ ep) n1
    have np2 : p ≠ a2 := ne_of_none (t1 _ _ (t0 _ _ ep)) n2
    have np3 : p ≠ a3 := ne_of_none (t2 _ _ (t1 _ _ (t0 _ _ ep))) n3
    have np4 : p ≠ a4 := ne_of_none (t3 _ _ (t2 _ _ (t1 _ _ (t0 _ _ ep)))) n4
    have f0 := sp.free n0
    have f1 := sp.free (t0.free n1)
    have f2 := sp.free (t0.free (t1.free n2))
    have f3 := sp.free (t0.free (t1.free (t2.free n3)))
    have f4 := sp.free (t0.free (t1.free (t2.free (t3.free n4))))
    have t04 := ((t1.trans t2).trans t3).trans t4
    have ep7 := t04 _ _ (t0 _ _ ep)
    have q07 := t04 _ _ q0
    have q17 := t4 _ _ (t3 _ _ (t2 _ _ q1))
    have q27 := t4 _ _ (t3 _ _ q2)
    have q37 := t4 _ _ q3
    have sAll : ∀ b o, H1 b = some o → b ≠ p → H7 b = some o := fun b o e _ => t04 _ _ (t0 _ _ (sp _ _ e))
    clear t1 t2 t3 t4 t04 t0 sp ep q0 q1 q2 q3 n0 n1 n2 n3 n4
    refine ⟨ep7, [(Sum.inr "modes", .ref a0), (Sum.inr "starts", .ref a1), (Sum.inr "procs", .ref a2), (Sum.inr "stack", .ref a3), (Sum.inr "called", .ref a4)], rfl, by show 5 ≤ 15; decide, ?_⟩
    have r : LSAt (upd H7 p (.dK (lsK (ad5 a0 a1 a2 a3 a4)))) p (ad5 a0 a1 a2 a3 a4) LS.empty := by
      refine ⟨upd_same, ⟨[], (upd_ne (Ne.symm np0)).trans q07, ⟨rfl, fun _ => rfl, fun _ _ h => by cases h⟩⟩, (upd_ne (Ne.symm np1)).trans q17, (upd_ne (Ne.symm np2)).trans q27, (upd_ne (Ne.symm np3)).trans q37, (upd_ne (Ne.symm np4)).trans q4, ?_, ?_⟩
      · intro i j hi hj e
        rcases (show i = 0 ∨ i = 1 ∨ i = 2 ∨ i = 3 ∨ i = 4 by omega) with rfl | rfl | rfl | rfl | rfl <;> rcases (show j = 0 ∨ j = 1 ∨ j = 2 ∨ j = 3 ∨ j = 4 by omega) with rfl | rfl | rfl | rfl | rfl <;>
          first
            | rfl
            | exact absurd e.symm ne01
            | exact absurd e.symm ne02
            | exact absurd e.symm ne03
            | exact absurd e.symm ne04
            | exact absurd e.symm ne12
            | exact absurd e.symm ne13
            | exact absurd e.symm ne14
            | exact absurd e.symm ne23
            | exact absurd e.symm ne24
            | exact absurd e.symm ne34
            | exact absurd e ne01
            | exact absurd e ne02
            | exact absurd e ne03
            | exact absurd e ne04
            | exact absurd e ne12
            | exact absurd e ne13
            | exact absurd e ne14
            | exact absurd e ne23
            | exact absurd e ne24
            | exact absurd e ne34
      · intro i hi
        rcases (show i = 0 ∨ i = 1 ∨ i = 2 ∨ i = 3 ∨ i = 4 by omega) with rfl | rfl | rfl | rfl | rfl
        · exact np0
        · exact np1
        · exact np2
        · exact np3
        · exact np4
    have sH : Same H1 (upd H7 p (.dK (lsK (ad5 a0 a1 a2 a3 a4)))) := fun b o e => by
      have z : b ≠ p := ne_of_none e np
      rw [upd_ne z]
      exact sAll b o e z
    show gName 2 (V.ref p) _ (upd H7 p (.dK (lsK (ad5 a0 a1 a2 a3 a4)))) _
    have hfr : ∀ i < 5, H1 (ad5 a0 a1 a2 a3 a4 i) = none := fun i hi => by
      rcases (show i = 0 ∨ i = 1 ∨ i = 2 ∨ i = 3 ∨ i = 4 by omega) with rfl | rfl | rfl | rfl | rfl
      · exact f0
      · exact f1
      · exact f2
      · exact f3
      · exact f4
    generalize ad5 a0 a1 a2 a3 a4 = ad at r sH hfr ⊢
    clear ne01 ne02 ne03 ne04 ne12 ne13 ne14 ne23 ne24 ne34 np0 np1 np2 np3 np4 ep7 q07 q17 q27 q37 q4 sAll f0 f1 f2 f3 f4
    generalize upd H7 p _ = H8 at r sH ⊢
    have go : ∀ {Ha Hb : Hp}, Same H1 Ha → FrS ad Ha Hb → Same H1 Hb := fun {Ha Hb} a f b o e => f b o (a b o e) fun i hi z => by rw [z, hfr i hi] at e; cases e
    walk_at "rd"
    refine x_rngO ?_
    walk_at "rd"
    refine ⟨Or.inl (SqL.of (sH _ _ e1)), ?_⟩
    rw [List.length_map]
    walk_at "rd"
    refine ⟨by omega, by omega, for_range (n := (rows.length : Int).toNat) (fun i σ H' => Hold (∃ (S : LS) (x3 x4 x5 x6 x7 : Option V), σ = [some (V.str z), some (V.ref lp), some (V.ref p), x3, x4, x5, x6, x7] ∧ LSAt H' p ad S ∧ GdS i S ∧ lRun isName isPrice splE wordsOf rows LS.empty 1 = lRun isName isPrice splE wordsOf (rows.drop i) S ((i : Int) + 1) ∧ Same H1 H'))
      ⟨LS.empty, none, none, none, none, none, rfl, r, ⟨Nat.le_refl _, Nat.le_refl _, Nat.le_refl _, Nat.le_refl _, Nat.le_refl _⟩, rfl, sH⟩ ?_ ?_⟩
    · clear r sH
      rintro i σ H9 hi ⟨S, x3, x4, x5, x6, x7, rfl, r, g, hrun, sH⟩
      have hil : i < rows.length := by omega
      obtain ⟨row, hrow⟩ : ∃ l, rows[i]? = some l := ⟨rows[i], List.getElem?_eq_getElem hil⟩
      have hrm := List.mem_of_getElem? hrow
      have hrw := hrl row hrm
      rw [drop_at hrow] at hrun
      rw [Int.zero_add]
      walk_at "rd"
      refine x_ixL (SqL.of (sH _ _ e1)) (v := .str row) (atI_nat (by rw [List.getElem?_map, hrow]; rfl)) ?_
      have hrs : row.length + 2 ≤ sizeLine := by have := big5; omega
      have hsl : ((PySem.Txt.split row " ").map V.str).length < 100000 := by
        have := split_len row " " (by decide +kernel) (by decide +kernel)
        rw [List.length_map]
        omega
      walk_at "rd"
      intro wp nwp
      have s2 := same_upd (o := .lst ((PySem.Txt.split row " ").map V.str)) nwp
      have e2 : upd H9 wp (.lst ((PySem.Txt.split row " ").map V.str)) wp = _ := upd_same
      replace r := r.same s2
      replace sH := sH.trans s2
      generalize upd H9 wp _ = H10 at r sH e2 ⊢
      clear s2 nwp
      walk_at "rd"
      refine ⟨⟨_, SqL.of e2⟩, fun D hD => ?_⟩
      refine lc_pure (K := K) (fun v => !decide (v = V.str "")) id (SqL.of e2) hD hsl (fun x H' acc R hx hs hacc hln h1 h2 => ?_) ?_
      · obtain ⟨y, hy, rfl⟩ := List.mem_map.mp hx
        walk_at "rd"
        refine x_B (fun h => ?_) (fun h => ?_)
        · walk_at "rd"
          exact h1 h
        · exact h2 h
      rw [wordsOf_map]
      have s3 := same_upd (o := .lst ((wordsOf row).map V.str)) hD
      have e3 : upd H10 D (.lst ((wordsOf row).map V.str)) D = _ := upd_same
      have nD := r.fresh hD
      replace r := r.same s3
      replace sH := sH.trans s3
      show tSeq _ _ _ _ (upd H10 D (.lst ((wordsOf row).map V.str)))
      generalize upd H10 D _ = H11 at r sH e3 ⊢
      clear s3 hD e2
      walk_at "rd"
      intro q nq
      have s4 := same_upd (o := .lst []) nq
      refine x_neE (SqL.of (s4 _ _ e3)) upd_same ?_
      rw [List.isEmpty_map]
      replace e3 := s4 _ _ e3
      replace r := r.same s4
      replace sH := sH.trans s4
      generalize upd H11 q _ = H12 at r sH e3 ⊢
      clear s4 nq
      have el2 : ((i + 1 : Nat) : Int) + 1 = (i : Int) + 1 + 1 := by omega
      have hun : lRun isName isPrice splE wordsOf (row :: rows.drop (i + 1)) S ((i : Int) + 1) = if wordsOf row = [] then lRun isName isPrice splE wordsOf (rows.drop (i + 1)) S ((i : Int) + 1 + 1) else if lLineOk isName isPrice splE S (wordsOf row) = true then lRun isName isPrice splE wordsOf (rows.drop (i + 1)) (lLineSt S (wordsOf row)) ((i : Int) + 1 + 1) else .inl ((i : Int) + 1) := rfl
      rw [hun] at hrun
      clear hun
      have hwl : (wordsOf row).length < 10000 := by
        have h1 := split_len row " " (by decide +kernel) (by decide +kernel)
        have h2 : (wordsOf row).length ≤ (PySem.Txt.split row " ").length := List.length_filter_le _ _
        omega
      have hwe : ∀ y ∈ wordsOf row, y.length ≤ 10000 := fun y hy => by
        have hm2 : y ∈ PySem.Txt.split row " " := (List.mem_filter.mp hy).1
        have := split_le (x := row) (y := " ") (by decide +kernel) (by decide +kernel) hm2
        omega
      generalize wordsOf row = ws at e3 hrun hwl hwe ⊢
      walk_at "rd"
      refine x_NB (fun h3 => ?_) (fun h3 => ?_)
      · obtain ⟨w0, r0, rfl⟩ : ∃ a b, ws = a :: b := by
          cases ws with
          | nil => cases h3
          | cons a b => exact ⟨a, b, rfl⟩
        rw [if_neg (fun z => by cases z)] at hrun
        walk_at "rd"
        refine ⟨p, ad, S, D, w0, r0, rfl, r, g.sm (by omega), ⟨e3, nD, hwl, hwe⟩, fun hb H5 f5 => ?_, fun hb H5 f5 r5 => ?_⟩
        · walk_at "rd"
          refine x_cT rfl ?_
          walk_at "rd"
          intro t nt
          rw [if_neg (by rw [hb]; decide)] at hrun
          rw [hrun] at hd
          exact kk _ _ ((s1.trans (go sH f5)).trans (same_upd nt)) (by rw [hd]; exact ⟨t, rfl, upd_same⟩)
        · walk_at "rd"
          refine x_cF rfl ?_
          walk_at "rd"
          rw [if_pos hb] at hrun
          exact ⟨lLineSt S (w0 :: r0), _, _, _, _, _, rfl, r5, g.step _, by rw [hrun, el2], go sH f5⟩
      · have hw : ws = [] := List.isEmpty_iff.mp h3
        rw [if_pos hw] at hrun
        walk_at "rd"
        exact ⟨S, _, _, _, _, _, rfl, r, g.up, by rw [hrun, el2], sH⟩
    · clear r sH
      rintro σ H9 ⟨S, x3, x4, x5, x6, x7, rfl, r, g, hrun, sH⟩
      rw [List.drop_of_length_le (by omega)] at hrun
      rw [show lRun isName isPrice splE wordsOf rows LS.empty 1 = .inr S from hrun] at hd
      replace hd : dueM z = if lEnd S then none else some (.inl (rows.length + 1)) := hd
      have gs := g.sm (by omega)
      walk_at "rd"
      refine ⟨p, _, rfl, dget_s r.dc (show valV (lsK ad) _ = some (.ref (ad 4)) from rfl), ?_⟩
      refine ⟨ad 4, rfl, ⟨_, SqL.of r.t4⟩, fun D hD => ?_⟩
      have hcl : (S.called.map V.str).length < 100000 := by rw [List.length_map]; exact lt5 gs.s4
      refine lc_pure (K := K) (fV fun y => !decide (y ∈ S.procs)) id (SqL.of r.t4) hD hcl (fun x H' acc R hx hs hacc hln h1 h2 => ?_) ?_
      · obtain ⟨y, hy, rfl⟩ := List.mem_map.mp hx
        walk_at "rd"
        refine ⟨p, _, rfl, dget_s (hs _ _ r.dc) (show valV (lsK ad) _ = some (.ref (ad 2)) from rfl), ?_⟩
        refine x_notInS (SqL.of (hs _ _ r.t2)) ?_
        walk_at "rd"
        refine x_B (fun h => ?_) (fun h => ?_)
        · walk_at "rd"
          exact h1 h
        · exact h2 h
      rw [List.map_id, fV_filter]
      have s2 := same_upd (o := .lst ((S.called.filter fun y => !decide (y ∈ S.procs)).map V.str)) hD
      have e2 : upd H9 D (.lst ((S.called.filter fun y => !decide (y ∈ S.procs)).map V.str)) D = _ := upd_same
      have hne := isE_filter (fun y => decide (y ∈ S.procs)) S.called
      replace r := r.same s2
      replace sH := sH.trans s2
      show tSeq _ _ _ _ (upd H9 D (.lst ((S.called.filter fun y => !decide (y ∈ S.procs)).map V.str)))
      generalize upd H9 D _ = H10 at r sH e2 ⊢
      generalize (S.called.filter fun y => !decide (y ∈ S.procs)) = mis at e2 hne ⊢
      clear s2 hD
      have bad : ∀ Hz, Same H1 Hz → ¬ lEnd S → ∀ t, Hz t = none → Q (.ref t) (upd Hz t (.tup [.str "bad text", .int (rows.length + 1), .bl true])) := fun Hz sz hn t nt =>
        kk _ _ ((s1.trans sz).trans (same_upd nt)) (by rw [hd, if_neg hn]; exact ⟨t, rfl, upd_same⟩)
      walk_at "rd"
      refine ⟨p, _, rfl, dget_s r.dc (show valV (lsK ad) _ = some (.ref (ad 3)) from rfl), ?_⟩
      walk_at "rd"
      intro q nq
      have s3 := same_upd (o := .lst []) nq
      refine x_neE (SqL.of (s3 _ _ r.t3)) upd_same ?_
      rw [List.isEmpty_map]
      replace e2 := s3 _ _ e2
      replace r := r.same s3
      replace sH := sH.trans s3
      generalize upd H10 q _ = H11 at r sH e2 ⊢
      clear s3 nq
      walk_at "rd"
      refine x_NB (fun h3 => ?_) (fun h3 => ?_)
      · walk_at "rd"
        refine ⟨Or.inl (SqL.of (sH _ _ e1)), ?_⟩
        rw [List.length_map]
        walk_at "rd"
        exact bad _ sH fun z => by rw [z.1] at h3; cases h3
      walk_at "rd"
      refine ⟨p, _, rfl, dget_s r.dc (show valV (lsK ad) _ = some (.ref (ad 2)) from rfl), ?_⟩
      refine x_notInS (SqL.of r.t2) ?_
      walk_at "rd"
      refine x_ND (fun h4 => ?_) (fun h4 => ?_)
      · walk_at "rd"
        refine ⟨Or.inl (SqL.of (sH _ _ e1)), ?_⟩
        rw [List.length_map]
        walk_at "rd"
        exact bad _ sH fun z => h4 z.2.1
      walk_at "rd"
      intro q2 nq2
      have s4 := same_upd (o := .lst []) nq2
      refine x_neE (SqL.of (s4 _ _ e2)) upd_same ?_
      rw [List.isEmpty_map, hne]
      replace r := r.same s4
      replace sH := sH.trans s4
      generalize upd H11 q2 _ = H12 at r sH ⊢
      clear s4 nq2
      walk_at "rd"
      refine x_NB (fun h5 => ?_) (fun h5 => ?_)
      · walk_at "rd"
        refine ⟨Or.inl (SqL.of (sH _ _ e1)), ?_⟩
        rw [List.length_map]
        walk_at "rd"
        refine bad _ sH fun z => ?_
        rw [List.all_eq_false] at h5
        obtain ⟨y, hy, hn⟩ := h5
        exact hn (decide_eq_true (z.2.2 y hy))
      walk_at "rd"
      refine kk _ _ (s1.trans sH) ?_
      rw [hd, if_pos ⟨List.isEmpty_iff.mp h3, h4, fun c hc => of_decide_eq_true (List.all_eq_true.mp h5 c hc)⟩]
      rfl
end
end MP
end
section
open PySem L2 MPX MP
local macro_rules | `(tactic| walk_at "rd1") => `(tactic| first
  | with_reducible refine x_seq ?_
  | with_reducible refine x_next ?_
  | with_reducible refine x_ret ?_
  | with_reducible refine x_retN ?_
  | with_reducible refine x_ifs ?_
  | with_reducible refine x_asg ?_
  | with_reducible refine x_drop ?_
  | with_reducible refine x_name ?_
  | ((with_reducible refine' x_var ?vv ?_); (case vv => exact rfl))
  | with_reducible refine x_c ?_
  | with_reducible refine x_op ?_
  | with_reducible refine x_un ?_
  | with_reducible refine x_test ?_
  | with_reducible refine x_tB ?_
  | with_reducible refine x_and ?_
  | with_reducible refine x_or ?_
  | with_reducible refine x_not ?_
  | with_reducible refine x_andV ?_
  | with_reducible refine x_orV ?_
  | with_reducible refine x_notV ?_
  | with_reducible refine x_if ?_
  | with_reducible refine x_nil ?_
  | with_reducible refine x_cons ?_
  | with_reducible refine x_tup ?_
  | with_reducible refine x_lst ?_
  | with_reducible refine x_cb ?_
  | with_reducible refine x_call ?_
  | with_reducible refine x_callS ?_
  | with_reducible refine x_callP ?_
  | with_reducible refine x_mk0 ?_
  | with_reducible refine x_mk1 ?_
  | with_reducible refine x_mk2 ?_
  | with_reducible refine x_make ?_
  | with_reducible refine x_sfld ?_
  | with_reducible refine x_din ?_
  | with_reducible refine x_dnin ?_
  | with_reducible refine x_fldS ?_
  | with_reducible refine x_sl3 ?_
  | ((with_reducible refine' r_pg ?vr ?vt ?vm ?vl ?vq); (case vr => (with_reducible assumption)); (case vt => assumption); (case vm => decide +kernel); (case vl => exact rfl))
  | with_reducible refine x_m0 ?_
  | with_reducible refine x_m1 ?_
  | with_reducible refine x_bm0 ?_
  | with_reducible refine x_bm ?_
  | with_reducible refine x_par ?_
  | with_reducible refine x_ilist ?_
  | with_reducible refine x_itup ?_
  | with_reducible refine x_istr ?_
  | ((with_reducible show tLc _ _ _ _ _ _ _ _); unfold tLc)
  | ((with_reducible show tFor _ _ _ _ _ _); unfold tFor)
  | ((with_reducible refine' x_eq ?vv ?_); (case vv => exact rfl))
  | ((with_reducible refine' x_ne ?vv ?_); (case vv => exact rfl))
  | with_reducible refine x_rI0 ?_
  | with_reducible refine x_dgetR ?_
  | with_reducible refine x_dputR ?_
  | with_reducible refine x_dnew ?_
  | with_reducible refine x_dget1 ?_
  | with_reducible refine x_dget2 ?_
  | with_reducible refine x_sl ?_
  | with_reducible refine x_nopart ?_
  | with_reducible refine x_part ?_
  | ((with_reducible refine' x_slL ?vv ?_); (case vv => (with_reducible assumption)))
  | with_reducible refine x_disp ?_
  | with_reducible refine x_pcons ?_
  | with_reducible refine x_pnil ?_
  | ((with_reducible refine' x_mod ?vv ?_); (case vv => omega); intro r er hr0 hr1; (try clear er))
  | ((with_reducible refine' x_rI ?vv ?_); (case vv => walk_at "sc"))
  | (with_reducible refine Or.inl (Exists.intro _ (And.intro rfl ?_)))
  | with_reducible refine x_T ?_
  | with_reducible refine x_F ?_
  | ((with_reducible show Exists (α := V) _); (with_reducible apply Exists.intro))
  | ((with_reducible show Exists (α := Bool) _); (with_reducible apply Exists.intro))
  | ((with_reducible show Exists (α := Nat) _); (with_reducible apply Exists.intro))
  | ((with_reducible show Exists (α := Int) _); (with_reducible apply Exists.intro))
  | ((with_reducible show Exists (α := List V) _); (with_reducible apply Exists.intro))
  | ((with_reducible show Exists (α := PySem.Str) _); (with_reducible apply Exists.intro))
  | ((with_reducible show Exists (α := Option V) _); (with_reducible apply Exists.intro))
  | ((with_reducible show Exists (α := Option Int) _); (with_reducible apply Exists.intro))
  | ((with_reducible show Exists (α := List (Key × V)) _); (with_reducible apply Exists.intro))
  | refine And.intro rfl ?_
  | ((with_reducible refine And.intro ?vv ?_); (case vv => (first | (with_reducible assumption) | (show _ ≤ sizeLine; decide) | exact len_ok rfl)))
  | (refine And.intro (Exists.intro _ rfl) ?_))
local macro_rules | `(tactic| walk_at "sc") => `(tactic| first
  | (with_reducible assumption)
  | exact divW (by omega) (by omega)
  | exact mulW (by omega) (by omega)
  | exact Or.inl ⟨by omega, by omega⟩
  | exact Or.inr ⟨by omega, by omega⟩
  | (show (_ : Int) ≠ 0; omega)
  | exact ⟨by decide, by decide, by decide⟩
  | decide)
local macro_rules | `(tactic| walk_at "rd") => `(tactic| repeat walk_at "rd1")
namespace MP
open PySem L2 MPX
section
variable {P : Program} {w : World} {K : PySem.W.Frag} {mg : Str → Option Value} {base : Heap} {CP CB CT CM : Addr}
abbrev s__law_told : Stmt := topS 60
abbrev N__law_told : List Str := ["_law_text", "_law_made", "e"]
abbrev P__law_told : List Str := ["_law_text"]
theorem sc__law_told : FnScope N__law_told P__law_told (defScope s__law_told) := ⟨rfl, rfl, rfl, by decide +kernel, rfl, by decide +kernel, by decide +kernel⟩
theorem call_isA {X : Cx} {a : Addr} {oe : Obj} {cls : Value} {d : Option Addr} (hp : (a, oe) ∈ X.pn) (hz : ExcIs cls d (a, oe)) {K : PySem.W.Frag} (hk : X.K = K) : CallR X (.builtin "isinstance") (rIsP K a cls d) := hk ▸ call_isP hp hz
theorem pe_pfA {X : Cx} {a : Addr} {oe : Obj} {cls : Value} {d : Option Addr} {n : Str} {e : Expr} {te : TE} {pos : Pos} (hp : (a, oe) ∈ X.pn) (hz : ExcIs cls d (a, oe)) {K : PySem.W.Frag} (hk : X.K = K) (he : PE X e te)
    (hb : attributeBase e n X.env (eval e X.env) = eval e X.env := by rfl) : PE X (.Attribute e n pos) (tPf K a cls d n te) := hk ▸ pe_pf hp hz he hb
theorem same_mk {H : Hp} {y dy C : Addr} {fs : List (Str × V)} (ny : H y = none) (ndy : H dy = none) (hd : dy ≠ y) : Same H (upd (upd H dy (.own y)) y (.ins C dy fs)) := (same_upd ndy).trans (same_upd (by rw [upd_ne (Ne.symm hd)]; exact ny))
theorem same_make {H H' : Hp} {y dy C : Addr} {fs : List (Str × V)} (ny : H y = none) (ndy : H dy = none) (fr : ∀ b u, upd (upd H dy (.own y)) y (.ins C dy fs) b = some u → b ≠ y → H' b = some u) : Same H H' := fun b u e => by
  have h1 := ne_of_none e ny
  refine fr b u ?_ h1
  rw [upd_ne h1, upd_ne (ne_of_none e ndy)]
  exact e
/-- an exception of the program's, as a clause sees it -/
structure CaughtT (K : PySem.W.Frag) (C CM : Addr) (f : Str) : Prop where
  xc : ExcC K C
  xf : XfC K C
  kit : PySem.W.kitOne K (.ref C) (.ref CM) = some true
  nf : PySem.W.findIn K (.ref C) f = some none
  ex : PySem.W.exmOne K (.ref C) (.ref C) = some true
structure ToldT (P : Program) (w : World) (K : PySem.W.Frag) (mg : Str → Option Value) (base : Heap) (CP CB CT CM : Addr) : Prop where
  pg : PrgTxt K CP
  cB : CaughtT K CB CM "line"
  cT : CaughtT K CT CM "what"
  exT : PySem.W.exmOne K (.ref CT) (.ref CB) = some false
  g_BadText : mg "BadText" = some (.ref CB)
  g_TooMany : mg "TooMany" = some (.ref CT)
  g_ModeError : mg "ModeError" = some (.ref CM)
  b_isinstance : mg "isinstance" = none
def sp_told : Sp := fun vs H Q _ => ∃ z : Str, vs = [.str z] ∧ z.length + 2 ≤ sizeLine ∧ ∀ v H', Same H H' → resV (dueM z) v H' → Q v H'
theorem ok_told {f : Addr} {fd : FuncData} (F : Fun K "_law_told" "_law_told" s__law_told f fd) (T : ToldT P w K mg base CP CB CT CM) (c_Program : CalM P w K mg base 8 "Program" CP (sp_pinit CP CB CT)) : FnOk P w K mg base CX0 10 f fd P__law_told sp_told := by
  refine F.ok sc__law_told (fun vs H Q E h => ?_) (fun cdv A outer s H vs Q E hr h => ?_)
  · obtain ⟨z, rfl, _⟩ := h
    rfl
  · obtain ⟨z, rfl, hz, kk⟩ := h
    have hu := hu_of hr
    have Tr := T.pg
    refine ⟨_, (pss_cons (ps_try_as2 (i := 2) (tb := fun W => _) rfl rfl sc__law_told.nd rfl rfl ⟨rfl, by decide, Or.inl T.g_BadText⟩ ⟨rfl, by decide, Or.inl T.g_TooMany⟩ takes0 (fun W pn xe tk _ => (pss_one (ps_set (i := 1) sc__law_told.nd rfl (Or.inl rfl) (pe_cmS c_Program hr (by decide) rfl (fun σ => passAt tk σ) (pa_cons (pv 0) pa_nil)))))
      (fun a oe cls d pn hz0 hf => have hz : ExcIs cls d (a, oe) := ⟨hz0, hf⟩; (pss_one (ps_ret (pe_tup (pa_cons pe_str (pa_cons (pe_pfA (List.mem_cons_self ..) hz (rfl : _ = K) (pv 2)) (pa_cons (pe_callB (call_isA (List.mem_cons_self ..) hz (rfl : _ = K)) (by rfl) T.b_isinstance (by decide +kernel) (pa_cons (pv 2) (pa_cons (pe_glob (v := V.ref _) rfl T.g_ModeError rfl) pa_nil))) pa_nil))))))) (fun a oe cls d pn hz0 hf => have hz : ExcIs cls d (a, oe) := ⟨hz0, hf⟩; (pss_one (ps_ret (pe_tup (pa_cons pe_str (pa_cons (pe_pfA (List.mem_cons_self ..) hz (rfl : _ = K) (pv 2)) (pa_cons (pe_callB (call_isA (List.mem_cons_self ..) hz (rfl : _ = K)) (by rfl) T.b_isinstance (by decide +kernel) (pa_cons (pv 2) (pa_cons (pe_glob (v := V.ref _) rfl T.g_ModeError rfl) pa_nil))) pa_nil))))))))
      (pss_one (ps_ret (pe_ifExp (pt_cmpR op_eq (pe_fld (pv 1) rfl) (pv 0) (nomark _)) pe_non pe_str)))), ?_⟩
    show tSeq _ _ _ [some (V.str z), none, none] H
    walk_at "rd"
    refine x_makS ?_
    walk_at "rd"
    intro x dx nx ndx hxd
    have sm := same_mk (C := CP) (fs := []) nx ndx hxd
    refine pinit_any upd_same hz (fun hn R S l ad mo pr bh fh H1 _ _ _ _ fr pa _ => ⟨rfl, ?_⟩) (fun l hl d H1 s1 e1 => ?_) (fun y hy d H1 s1 e1 => ?_)
    · have s2 := same_make nx ndx fr
      walk_at "rd"
      refine x_D (fun _ => ?_) (fun h => absurd rfl h)
      walk_at "rd"
      exact kk _ _ s2 (by rw [hn]; rfl)
    · refine ⟨true, T.cB.ex, fun _ a na => ?_, fun z => Bool.noConfusion z⟩
      walk_at "rd"
      refine ⟨_, rfl, rfl, CB, rfl, T.cB.xf, T.cB.nf, _, _, _, rfl, e1, rfl, ?_⟩
      walk_at "rd"
      refine ⟨CB, _, _, _, _, rfl, T.cB.xc, rfl, fun u hu => hu, T.cB.kit, e1, ?_⟩
      walk_at "rd"
      intro t nt
      exact kk _ _ ((sm.trans s1).trans (same_upd nt)) (by rw [hl]; exact ⟨t, rfl, upd_same⟩)
    · refine ⟨false, T.exT, fun z => Bool.noConfusion z, fun _ => ⟨true, T.cT.ex, fun _ a na => ?_, fun z => Bool.noConfusion z⟩⟩
      walk_at "rd"
      refine ⟨_, rfl, rfl, CT, rfl, T.cT.xf, T.cT.nf, _, _, _, rfl, e1, rfl, ?_⟩
      walk_at "rd"
      refine ⟨CT, _, _, _, _, rfl, T.cT.xc, rfl, fun u hu => hu, T.cT.kit, e1, ?_⟩
      walk_at "rd"
      intro t nt
      exact kk _ _ ((sm.trans s1).trans (same_upd nt)) (by rw [hy]; exact ⟨t, rfl, upd_same⟩)
end
end MP
end
section
namespace MP
open PySem PySem.Spec PyProof.Rows L2
/-- a text times a number -/
theorem op_repS {X : Cx} : OpR X (binaryOp .Mult) (fun x y H Q => ∃ z n, x = .str z ∧ y = .int n ∧ MulOk z n ∧ Q (.str (Txt.mul z n)) H) := by
  intro pins s σ H x y v u Q I rx ry h
  obtain ⟨z, n, rfl, rfl, hok, q⟩ := h
  obtain ⟨t, rfl⟩ := rx
  obtain ⟨t2, rfl⟩ := ry
  exact SB.mul hok fun t' k => ⟨.str _, H, I.tok _, ⟨_, rfl⟩, q⟩
theorem x_par3 {σ : L2.St} {H : Hp} {D : Ends} {i j l : Nat} {ta : TA} (h : ta σ H fun vs H1 => ∃ u v w, vs = [u, v, w] ∧ D.nx (((σ.set i (some u)).set j (some v)).set l (some w)) H1) : tPar3 i j l ta D σ H := h
end MP
end
section
namespace MP
open PySem L2
/-! ### words that are put in -/
theorem mul1_ok {z : Str} (hl : z.length = 1) {n : Nat} (hn : n < 100000) : MulOk z ((n : Nat) : Int) := by
  refine ⟨?_, fun h1 _ => ?_, fun _ _ => ?_⟩
  · rw [decide_eq_false (by omega), decide_eq_false (by omega)]
    rfl
  · rw [hl]
    have h2 : (1 : Int) ≤ (2 ^ 63 - 1) / ((n : Nat) : Int) := by
      rw [Int.le_ediv_iff_mul_le (by omega)]
      omega
    omega
  · rw [hl]
    have : sizeLine = 16777216 := sizeLine_eq
    show decide (1 * ((n : Nat) : Int).toNat > sizeLine) = false
    exact decide_eq_false (by omega)
theorem mul1_len {z : Str} (hl : z.length = 1) {n : Nat} : (Txt.mul z ((n : Nat) : Int)).length = n := by
  have h := PyProof.Rows.len_mul z ((n : Nat) : Int)
  rw [hl, decide_eq_false (by omega)] at h
  simp at h
  omega
/-- texts of at most m signs -/
def AllS (m : Nat) (xs : List V) : Prop := ∀ v ∈ xs, ∃ z : Str, v = .str z ∧ z.length ≤ m
theorem AllS.app {m : Nat} {a b : List V} (ha : AllS m a) (hb : AllS m b) : AllS m (a ++ b) := fun v hv => (List.mem_append.mp hv).elim (ha v) (hb v)
theorem AllS.dec {m : Nat} {xs : List V} (h : xs.all (fun v => match v with | .str z => decide (z.length ≤ m) | _ => false) = true) : AllS m xs := fun v hv => by
  have h1 := List.all_eq_true.mp h v hv
  match v, h1 with
  | .str z, h1 => exact ⟨z, rfl, of_decide_eq_true h1⟩
theorem AllS.cons {m : Nat} {z : Str} {xs : List V} (h : z.length ≤ m) (hx : AllS m xs) : AllS m (.str z :: xs) := fun v hv => (List.mem_cons.mp hv).elim (fun e => ⟨z, e, h⟩) (hx v)
theorem AllS.nil {m : Nat} : AllS m [] := fun v hv => by cases hv
theorem parts_sum : ∀ (S L : List Nat) (k : Nat) (acc : List Nat), ((TL.spl S k acc L).map List.length).sum ≤ acc.length + L.length
  | S, [], k, acc => by rw [TL.spl_nil]; simp
  | S, c :: r, 0, acc => by
    by_cases h : TL.pre S (c :: r) = true
    · rw [TL.spl_hit h]
      have := parts_sum S r (S.length - 1) []
      simp only [List.map_cons, List.sum_cons, List.length_cons, List.length_nil] at this ⊢
      omega
    · rw [TL.spl_miss (by simpa using h)]
      have := parts_sum S r 0 (acc ++ [c])
      simp only [List.length_append, List.length_cons, List.length_nil] at this ⊢
      omega
  | S, c :: r, k + 1, acc => by
    have e : TL.spl S (k + 1) acc (c :: r) = TL.spl S k acc r := rfl
    rw [e]
    have := parts_sum S r k acc
    simp only [List.length_cons]
    omega
theorem split_sum {x y : Str} (hy : TL.tl y ≠ []) (h : y.cps.all (· < 256) = true) : ((PySem.Txt.split x y).map (·.length)).sum ≤ x.length := by
  have e := TL.split_spl x y hy (TL.kind_ok h)
  have h2 : (PySem.Txt.split x y).map (·.length) = ((PySem.Txt.split x y).map TL.tl).map List.length := by
    rw [List.map_map]
    exact List.map_congr_left fun a _ => TL.len_tl a
  rw [h2, e]
  have := parts_sum (TL.tl y) (TL.tl x) 0 []
  rw [TL.len_tl]
  simpa using this
theorem split_ne {x y : Str} (hy : TL.tl y ≠ []) (h : y.cps.all (· < 256) = true) : 0 < (PySem.Txt.split x y).length := by
  have e := congrArg List.length (TL.split_spl x y hy (TL.kind_ok h))
  rw [List.length_map] at e
  rw [e]
  have : ∀ (S L : List Nat) (k : Nat) (acc : List Nat), 0 < (TL.spl S k acc L).length := by
    intro S L
    induction L with
    | nil => intro k acc; rw [TL.spl_nil]; exact Nat.one_pos
    | cons c r ih =>
      intro k acc
      cases k with
      | zero =>
        by_cases h : TL.pre S (c :: r) = true
        · rw [TL.spl_hit h]; simp
        · rw [TL.spl_miss (by simpa using h)]; exact ih _ _
      | succ k => exact ih k acc
  exact this _ _ _ _
/-- a join by single spaces -/
theorem join_sp (ws : List Str) : (Txt.join (" " : Str) ws).length ≤ (ws.map (·.length)).sum + ws.length := by
  have h := join_le0 (" " : Str) ws
  have l_b : ((" " : Str)).length = 1 := by decide +kernel
  rw [l_b, Nat.mul_one] at h
  rw [TL.join_eq]
  exact h
theorem sum_take {l : List Str} {k : Nat} : ((l.take k).map (·.length)).sum ≤ (l.map (·.length)).sum := by
  have h : (l.map (·.length)).sum = ((l.take k).map (·.length)).sum + ((l.drop k).map (·.length)).sum := by rw [← List.sum_append, ← List.map_append, List.take_append_drop]
  omega
theorem sum_drop {l : List Str} {k : Nat} : ((l.drop k).map (·.length)).sum ≤ (l.map (·.length)).sum := by
  have h : (l.map (·.length)).sum = ((l.take k).map (·.length)).sum + ((l.drop k).map (·.length)).sum := by rw [← List.sum_append, ← List.map_append, List.take_append_drop]
  omega
theorem sum_td (l : List Str) (k : Nat) : ((l.take k).map (·.length)).sum + ((l.drop k).map (·.length)).sum = (l.map (·.length)).sum := by rw [← List.sum_append, ← List.map_append, List.take_append_drop]
end MP
end
section
namespace MP
open PySem L2
/-! ### results of told and due are alike -/
theorem due_inr {z y : Str} (h : dueM z = some (.inr y)) : y = ("characters" : Str) ∨ y = ("lines" : Str) := by
  unfold dueM at h
  by_cases h1 : 6000 < z.length
  · rw [if_pos h1] at h
    cases h
    exact .inl rfl
  · rw [if_neg h1] at h
    by_cases h2 : 120 < (rowsOf z).length
    · rw [if_pos h2] at h
      cases h
      exact .inr rfl
    · rw [if_neg h2] at h
      split at h
      · cases h
      · split at h <;> cases h
def dataR : Option (Int ⊕ Str) → PyData
  | none => .none
  | some (.inl l) => .tuple [.str "bad text", .int l, .bool true]
  | some (.inr y) => .tuple [.str "too many", .str y, .bool true]
theorem dpR {K : PySem.W.Frag} {r : Option (Int ⊕ Str)} {v : V} {H : Hp} (h : resV r v H) : Dp K H v (dataR r) := by
  match r, h with
  | none, h => cases (show v = .non from h); exact .non
  | some (.inl l), ⟨t, e, q⟩ => subst e; exact .tup (SqT.of q) (.cons (.str _) (.cons (.int _) (.cons (.bl _) .nil)))
  | some (.inr y), ⟨t, e, q⟩ => subst e; exact .tup (SqT.of q) (.cons (.str _) (.cons (.str _) (.cons (.bl _) .nil)))
theorem shapeR (z : Str) : SeqAt.shaped (dataR (dueM z)) = true := by
  cases h : dueM z with
  | none => rfl
  | some r =>
    cases r with
    | inl l =>
      show (PyData.canLay0 (.tuple [.str "bad text", .int l, .bool true]) && decide (PyData.depth (.tuple [.str "bad text", .int l, .bool true]) ≤ 64)) = true
      have h1 : PyData.canLay0 (.tuple [.str "bad text", .int l, .bool true]) = PyData.canLay0 (.tuple [.str "bad text", .int 0, .bool true]) := rfl
      have h2 : PyData.depth (.tuple [.str "bad text", .int l, .bool true]) = PyData.depth (.tuple [.str "bad text", .int 0, .bool true]) := rfl
      rw [h1, h2]
      decide +kernel
    | inr y =>
      rcases due_inr h with rfl | rfl
      · decide +kernel
      · decide +kernel
theorem eqvR (r : Option (Int ⊕ Str)) : PyData.eqv (dataR r) (dataR r) = true := by
  match r with
  | none => rfl
  | some (.inl l) =>
    show ((("bad text" : Str) == ("bad text" : Str)) && ((l == l) && ((true == true) && true))) = true
    rw [beq_self_eq_true, beq_self_eq_true]
    rfl
  | some (.inr y) =>
    show ((("too many" : Str) == ("too many" : Str)) && ((y == y) && ((true == true) && true))) = true
    rw [beq_self_eq_true, beq_self_eq_true]
    rfl
theorem x_neRes {K : PySem.W.Frag} {z : Str} {v u : V} {H : Hp} {Q : VK} (h1 : resV (dueM z) v H) (h2 : resV (dueM z) u H) (q : Q (.bl false) H) : rNeD K v u H Q :=
  ⟨_, _, dpR h1, dpR h2, shapeR z, shapeR z, by rw [eqvR]; exact q⟩
end MP
end
section
open PySem L2 MPX MP
local macro_rules | `(tactic| walk_at "rd1") => `(tactic| first
  | with_reducible refine x_seq ?_
  | with_reducible refine x_next ?_
  | with_reducible refine x_ret ?_
  | with_reducible refine x_retN ?_
  | with_reducible refine x_ifs ?_
  | with_reducible refine x_asg ?_
  | with_reducible refine x_drop ?_
  | with_reducible refine x_name ?_
  | ((with_reducible refine' x_var ?vv ?_); (case vv => exact rfl))
  | with_reducible refine x_c ?_
  | with_reducible refine x_op ?_
  | with_reducible refine x_un ?_
  | with_reducible refine x_test ?_
  | with_reducible refine x_tB ?_
  | with_reducible refine x_and ?_
  | with_reducible refine x_or ?_
  | with_reducible refine x_not ?_
  | with_reducible refine x_andV ?_
  | with_reducible refine x_orV ?_
  | with_reducible refine x_notV ?_
  | with_reducible refine x_if ?_
  | with_reducible refine x_nil ?_
  | with_reducible refine x_cons ?_
  | with_reducible refine x_tup ?_
  | with_reducible refine x_lst ?_
  | with_reducible refine x_cb ?_
  | with_reducible refine x_call ?_
  | with_reducible refine x_callS ?_
  | with_reducible refine x_callP ?_
  | with_reducible refine x_mk0 ?_
  | with_reducible refine x_mk1 ?_
  | with_reducible refine x_mk2 ?_
  | with_reducible refine x_make ?_
  | with_reducible refine x_sfld ?_
  | with_reducible refine x_din ?_
  | with_reducible refine x_dnin ?_
  | with_reducible refine x_fldS ?_
  | with_reducible refine x_sl3 ?_
  | ((with_reducible refine' r_rd ?vr ?vt ?vm ?vl ?vq); (case vr => (with_reducible assumption)); (case vt => assumption); (case vm => decide +kernel); (case vl => exact rfl))
  | with_reducible refine x_m0 ?_
  | with_reducible refine x_m1 ?_
  | with_reducible refine x_bm0 ?_
  | with_reducible refine x_bm ?_
  | with_reducible refine x_par ?_
  | with_reducible refine x_ilist ?_
  | with_reducible refine x_itup ?_
  | with_reducible refine x_istr ?_
  | ((with_reducible show tLc _ _ _ _ _ _ _ _); unfold tLc)
  | ((with_reducible show tFor _ _ _ _ _ _); unfold tFor)
  | ((with_reducible refine' x_eq ?vv ?_); (case vv => exact rfl))
  | ((with_reducible refine' x_ne ?vv ?_); (case vv => exact rfl))
  | with_reducible refine x_rI0 ?_
  | with_reducible refine x_dgetR ?_
  | with_reducible refine x_dputR ?_
  | with_reducible refine x_dnew ?_
  | with_reducible refine x_dget1 ?_
  | with_reducible refine x_dget2 ?_
  | with_reducible refine x_sl ?_
  | with_reducible refine x_nopart ?_
  | with_reducible refine x_part ?_
  | ((with_reducible refine' x_slL ?vv ?_); (case vv => (with_reducible assumption)))
  | with_reducible refine x_disp ?_
  | with_reducible refine x_pcons ?_
  | with_reducible refine x_pnil ?_
  | ((with_reducible refine' x_mod ?vv ?_); (case vv => omega); intro r er hr0 hr1)
  | ((with_reducible refine' x_rI ?vv ?_); (case vv => walk_at "sc"))
  | (with_reducible refine Or.inl (Exists.intro _ (And.intro rfl ?_)))
  | with_reducible refine x_T ?_
  | with_reducible refine x_F ?_
  | ((with_reducible show Exists (α := V) _); (with_reducible apply Exists.intro))
  | ((with_reducible show Exists (α := Bool) _); (with_reducible apply Exists.intro))
  | ((with_reducible show Exists (α := Nat) _); (with_reducible apply Exists.intro))
  | ((with_reducible show Exists (α := Int) _); (with_reducible apply Exists.intro))
  | ((with_reducible show Exists (α := List V) _); (with_reducible apply Exists.intro))
  | ((with_reducible show Exists (α := PySem.Str) _); (with_reducible apply Exists.intro))
  | ((with_reducible show Exists (α := Option V) _); (with_reducible apply Exists.intro))
  | ((with_reducible show Exists (α := Option Int) _); (with_reducible apply Exists.intro))
  | ((with_reducible show Exists (α := List (Key × V)) _); (with_reducible apply Exists.intro))
  | refine And.intro rfl ?_
  | ((with_reducible refine And.intro ?vv ?_); (case vv => (first | (with_reducible assumption) | (show _ ≤ sizeLine; decide) | exact len_ok rfl)))
  | (refine And.intro (Exists.intro _ rfl) ?_))
local macro_rules | `(tactic| walk_at "sc") => `(tactic| first
  | (with_reducible assumption)
  | exact divW (by omega) (by omega)
  | exact mulW (by omega) (by omega)
  | exact Or.inl ⟨by omega, by omega⟩
  | exact Or.inr ⟨by omega, by omega⟩
  | (show (_ : Int) ≠ 0; omega)
  | exact ⟨by decide, by decide, by decide⟩
  | decide)
local macro_rules | `(tactic| walk_at "rd") => `(tactic| repeat walk_at "rd1")
local macro_rules | `(tactic| walk_at "nw") => `(tactic| (intro pX nX; generalize eX : upd _ pX _ = HX; have sX := nw_same eX nX; have qX := nw_at eX; clear eX))
local macro_rules | `(tactic| walk_at "hp") => `(tactic| repeat (first
  | (with_reducible assumption)
  | (with_reducible exact Kept.refl _ _)
  | (with_reducible exact Same.rfl')
  | (with_reducible apply Same.at; with_reducible assumption)
  | (with_reducible apply PenL.up; with_reducible assumption)
  | (with_reducible apply Kept.lst; with_reducible assumption; focus (walk_at "hp"; done))
  | (with_reducible apply Kept.tup; with_reducible assumption; focus (walk_at "hp"; done))
  | focus (with_reducible apply SqL.of; walk_at "hp"; done)
  | (with_reducible apply SqL.up; with_reducible assumption)
  | (with_reducible apply SqL.kp; with_reducible assumption; focus (walk_at "hp"; done))
  | (with_reducible apply Kept.snoc; with_reducible assumption)
  | (with_reducible apply Kept.snocS; with_reducible assumption)
  | (with_reducible apply Same.snoc; with_reducible assumption)
  | assumption))
namespace MP
open PySem L2
section
variable {P : Program} {w : World} {K : PySem.W.Frag} {mg : Str → Option Value} {base : Heap}
abbrev s__law_word : Stmt := topS 61
abbrev N__law_word : List Str := ["_law_pen_here", "_law_words", "_law_odd", "_law_sort", "_law_word_here", "_law_at", "_law_signs"]
abbrev P__law_word : List Str := ["_law_pen_here", "_law_words"]
theorem sc__law_word : FnScope N__law_word P__law_word (defScope s__law_word) := ⟨rfl, rfl, rfl, by decide +kernel, rfl, by decide +kernel, by decide +kernel⟩
abbrev s__law_bent : Stmt := topS 62
abbrev N__law_bent : List Str := ["_law_pen_here", "_law_line", "_law_words", "_law_row", "_law_at", "_law_sort"]
abbrev P__law_bent : List Str := ["_law_pen_here", "_law_line", "_law_words"]
theorem sc__law_bent : FnScope N__law_bent P__law_bent (defScope s__law_bent) := ⟨rfl, rfl, rfl, by decide +kernel, rfl, by decide +kernel, by decide +kernel⟩
def sp_word : Sp := fun vs H Q _ => ∃ (d cl a : Addr) (ws : List Str) (N : Nat) (ns : List Int) (n : Nat), vs = [.ref d, .ref a] ∧ PenL H d cl ns n ∧ n < 900000000 ∧ H a = some (.lst (ws.map V.str)) ∧ Bd 10000 N ws ∧ 50 ≤ N ∧ N ≤ 10000 ∧ 0 < ws.length ∧
  ∀ z H', z.length ≤ N + 1 → Kept d H H' → PenL H' d cl ns (n + 4) → Q (.str z) H'
theorem ok_word {f : Addr} {fd : FuncData} (F : Fun K "_law_word" "_law_word" s__law_word f fd) (T : LinTxt mg) (c__law_draw : Cal P w K mg base 1 "_law_draw" sp_draw) (c__law_pickL : Cal P w K mg base 2 "_law_pick" (sp_pickL K)) : FnOk P w K mg base CX0 3 f fd P__law_word sp_word := by
  refine F.ok sc__law_word (fun vs H Q E h => ?_) (fun cdv A outer s H vs Q E hr h => ?_)
  · obtain ⟨d, cl, a, ws, N, ns, n, rfl, _⟩ := h
    rfl
  · obtain ⟨d, cl, a, ws, N, ns, n, rfl, p, hn, ha, bw, hN1, hN2, h0, k⟩ := h
    have hu := hu_of hr
    have big : sizeLine = 16777216 := sizeLine_eq
    have hw := bw.n
    refine ⟨_, (pss_cons (ps_set (i := 2) sc__law_word.nd rfl (Or.inl rfl) (pe_lst (pa_cons pe_str (pa_cons pe_str (pa_cons pe_str (pa_cons pe_str (pa_cons pe_str (pa_cons pe_str (pa_cons pe_str (pa_cons pe_str (pa_cons pe_str (pa_cons pe_str (pa_cons pe_str (pa_cons pe_str (pa_cons pe_str pa_nil)))))))))))))))
      (pss_cons (ps_set (i := 2) sc__law_word.nd rfl (Or.inl rfl) (pe_op op_cat (pv 2) (pe_lst (pa_cons pe_str (pa_cons pe_str (pa_cons pe_str (pa_cons pe_str (pa_cons pe_str (pa_cons pe_str (pa_cons pe_str (pa_cons pe_str (pa_cons pe_str (pa_cons pe_str (pa_cons pe_str (pa_cons pe_str (pa_cons pe_str (pa_cons pe_str (pa_cons pe_str pa_nil))))))))))))))))))
      (pss_cons (ps_set (i := 2) sc__law_word.nd rfl (Or.inl rfl) (pe_op op_cat (pv 2) (pe_lst (pa_cons (pe_op op_add_str pe_str (pe_op op_repS pe_str pe_int)) (pa_cons (pe_op op_add_str (pe_op op_add_str pe_str (pe_op op_repS pe_str pe_int)) pe_str) (pa_cons (pe_op op_repS pe_str pe_int) (pa_cons (pe_op op_add_str pe_str (pe_op op_repS pe_str pe_int)) pa_nil)))))))
      (pss_cons (ps_set (i := 2) sc__law_word.nd rfl (Or.inl rfl) (pe_op op_cat (pv 2) (pe_lst (pa_cons pe_str (pa_cons pe_str (pa_cons pe_str (pa_cons pe_str (pa_cons pe_str pa_nil))))))))
      (pss_cons (ps_set (i := 3) sc__law_word.nd rfl (Or.inl rfl) (pe_cc c__law_draw hr (by decide) rfl (pa_cons (pv 0) (pa_cons pe_int pa_nil))))
      (pss_cons (ps_if (pt_cmpR op_eq (pv 3) pe_int (nomark _)) (pss_one (ps_ret (pe_cc c__law_pickL hr (by decide) rfl (pa_cons (pv 0) (pa_cons (pv 2) pa_nil))))) pss_nil)
      (pss_cons (ps_set (i := 4) sc__law_word.nd rfl (Or.inl rfl) (pe_cc c__law_pickL hr (by decide) rfl (pa_cons (pv 0) (pa_cons (pv 1) pa_nil))))
      (pss_cons (ps_if (pt_cmpR op_eq (pv 3) pe_int (nomark _)) (pss_one (ps_ret (pv 4))) pss_nil)
      (pss_cons (ps_set (i := 5) sc__law_word.nd rfl (Or.inl rfl) (pe_cc c__law_draw hr (by decide) rfl (pa_cons (pv 0) (pa_cons (pe_op op_add (pe_callB call_len_str (by rfl) T.b_len (by decide +kernel) (pa_cons (pv 4) pa_nil)) pe_int) pa_nil))))
      (pss_cons (ps_set (i := 6) sc__law_word.nd rfl (Or.inl rfl) pe_str)
      (pss_cons (ps_if (pt_cmpR op_eq (pv 3) pe_int (nomark _)) (pss_one (ps_ret (pe_op op_add_str (pe_op op_add_str (pe_slice sl_str (pv 4) po_none (po_some (pv 5))) (pe_ix ix_str (pv 6) (pe_cc c__law_draw hr (by decide) rfl (pa_cons (pv 0) (pa_cons (pe_callB call_len_str (by rfl) T.b_len (by decide +kernel) (pa_cons (pv 6) pa_nil)) pa_nil))) (fun _ _ => rfl))) (pe_slice sl_str (pv 4) (po_some (pv 5)) po_none)))) pss_nil)
      (pss_one (ps_ret (pe_op op_add_str (pe_slice sl_str (pv 4) po_none (po_some (pv 5))) (pe_slice sl_str (pv 4) (po_some (pe_op op_add (pv 5) pe_int)) po_none))))))))))))))), ?_⟩
    show tSeq _ _ _ [some (V.ref d), some (V.ref a), none, none, none, none, none] H
    walk_at "rd"
    walk_at "nw"
    rename_i q1 nq1 H1 s1 e1
    walk_at "rd"
    walk_at "nw"
    rename_i q2 nq2 H2 s2 e2
    refine ⟨q1, q2, _, _, rfl, rfl, s2 _ _ e1, e2, by simp only [List.length_cons, List.length_nil]; omega, ?_⟩
    walk_at "nw"
    rename_i q3 nq3 H3 s3 e3
    obtain ⟨xs, hxs, hx1, hx2⟩ : ∃ xs, H3 q3 = some (.lst xs) ∧ AllS 50 xs ∧ xs.length = 28 := ⟨_, e3, AllS.dec (by decide +kernel), rfl⟩
    have t13 : Same H H3 := (s1.trans s2).trans s3
    clear e3 s1 s2 s3 e1 e2 nq1 nq2 nq3
    have o1 : (("1" : Str)).length = 1 := by decide +kernel
    have o0 : (("0" : Str)).length = 1 := by decide +kernel
    have o9 : (("9" : Str)).length = 1 := by decide +kernel
    have m30 : (Txt.mul ("0" : Str) 30).length = 30 := mul1_len (n := 30) o0
    have m29 : (Txt.mul ("0" : Str) 29).length = 29 := mul1_len (n := 29) o0
    have m31 : (Txt.mul ("0" : Str) 31).length = 31 := mul1_len (n := 31) o0
    have m9 : (Txt.mul ("9" : Str) 30).length = 30 := mul1_len (n := 30) o9
    walk_at "rd"
    refine ⟨mul1_ok (n := 30) o0 (by decide), ?_⟩
    walk_at "rd"
    refine ⟨mul1_ok (n := 29) o0 (by decide), ?_⟩
    walk_at "rd"
    refine ⟨mul1_ok (n := 30) o9 (by decide), ?_⟩
    walk_at "rd"
    refine ⟨mul1_ok (n := 31) o0 (by decide), ?_⟩
    walk_at "rd"
    walk_at "nw"
    rename_i q4 nq4 H4 s4 e4
    refine ⟨q3, q4, _, _, rfl, rfl, s4 _ _ hxs, e4, by simp only [List.length_cons, List.length_nil]; omega, ?_⟩
    have h4 : AllS 50 [V.str (("1" : Str) ++ Txt.mul ("0" : Str) 30), V.str ((("1" : Str) ++ Txt.mul ("0" : Str) 29) ++ ("1" : Str)), V.str (Txt.mul ("9" : Str) 30), V.str (("1" : Str) ++ Txt.mul ("0" : Str) 31)] :=
      AllS.cons (by rw [Str.length_append]; omega) (AllS.cons (by rw [Str.length_append, Str.length_append]; omega) (AllS.cons (by omega) (AllS.cons (by rw [Str.length_append]; omega) AllS.nil)))
    walk_at "nw"
    rename_i q5 nq5 H5 s5 e5
    obtain ⟨ys, hys, hy1, hy2⟩ : ∃ ys, H5 q5 = some (.lst ys) ∧ AllS 50 ys ∧ ys.length = 32 := ⟨_, e5, hx1.app h4, by rw [List.length_append, hx2]; rfl⟩
    have t15 : Same H H5 := (t13.trans s4).trans s5
    clear e4 e5 s4 s5 nq4 nq5 t13 hxs hx1 h4 hx2
    walk_at "rd"
    walk_at "nw"
    rename_i q6 nq6 H6 s6 e6
    refine ⟨q5, q6, _, _, rfl, rfl, s6 _ _ hys, e6, by simp only [List.length_cons, List.length_nil]; omega, ?_⟩
    walk_at "nw"
    rename_i q7 nq7 H7 s7 e7
    obtain ⟨od, hod, ho1, ho2⟩ : ∃ ys, H7 q7 = some (.lst ys) ∧ AllS 50 ys ∧ ys.length = 37 := ⟨_, e7, hy1.app (AllS.dec (by decide +kernel)), by rw [List.length_append, hy2]; rfl⟩
    have t17 : Same H H7 := (t15.trans s6).trans s7
    clear e6 e7 s6 s7 nq6 nq7 t15 hys hy1 hy2
    have p7 := p.mono t17
    have ha7 := t17 _ _ ha
    walk_at "rd"
    refine ⟨d, cl, 4, ns, _, rfl, p7, by omega, by omega, by omega, fun so H8 so0 so1 k8 p8 => ?_⟩
    have k18 : Kept d H H8 := (Kept.of t17).trans k8
    have ha8 := k8.lst p7 ha7
    have hod8 := k8.lst p7 hod
    clear t17 p7 ha7 hod k8
    walk_at "rd"
    refine x_D (fun _ => ?_) (fun _ => ?_)
    · walk_at "rd"
      refine ⟨d, cl, q7, od, ns, _, rfl, p8, by omega, SqL.of hod8, by omega, by omega, fun v H9 hv k9 p9 => ?_⟩
      obtain ⟨z, rfl, hz⟩ := ho1 v hv
      exact k z H9 (by omega) (k18.trans k9) (p9.le (by omega))
    walk_at "rd"
    refine ⟨d, cl, a, _, ns, _, rfl, p8, by omega, SqL.of ha8, by rw [List.length_map]; exact h0, by rw [List.length_map]; omega, fun v H9 hv k9 p9 => ?_⟩
    obtain ⟨z, hz, rfl⟩ := List.mem_map.mp hv
    have lz := bw.m z hz
    have k19 := k18.trans k9
    clear k18 k9 p8 ha8 hod8
    walk_at "rd"
    refine x_D (fun _ => ?_) (fun _ => ?_)
    · walk_at "rd"
      exact k z H9 (by omega) k19 (p9.le (by omega))
    walk_at "rd"
    refine ⟨by omega, ?_⟩
    walk_at "rd"
    refine ⟨d, cl, _, ns, _, rfl, p9, by omega, by omega, by omega, fun at_ H10 a0 a1 k10 p10 => ?_⟩
    have k110 := k19.trans k10
    have l1 := cutS_length z none (some at_)
    obtain ⟨at_, rfl⟩ : ∃ k : Nat, at_ = k := ⟨at_.toNat, by omega⟩
    have hct : (cutS z none (some ((at_ : Nat) : Int))).length + (cutS z (some ((at_ : Nat) : Int)) none).length = z.length := by
      rw [TL.len_tl, TL.len_tl, tl_to, tl_from, TL.len_tl, ← List.length_append, List.take_append_drop]
    walk_at "rd"
    refine x_D (fun _ => ?_) (fun _ => ?_)
    · walk_at "rd"
      refine ⟨z, rfl, by omega, ?_⟩
      have lsg : (("abcdefghijklmnopqrstuvwxyz0123456789=?AZ-._#" : Str)).length = 44 := by decide +kernel
      walk_at "rd"
      refine ⟨d, cl, _, ns, _, rfl, p10, by omega, by omega, by omega, fun j H11 j0 j1 k11 p11 => ?_⟩
      rw [lsg] at j1
      have esg : (("abcdefghijklmnopqrstuvwxyz0123456789=?AZ-._#" : Str)).cps.toList.length = 44 := by decide +kernel
      obtain ⟨c, hc, _⟩ := at_mod (xs := (("abcdefghijklmnopqrstuvwxyz0123456789=?AZ-._#" : Str)).cps.toList) j0 (by rw [esg]; exact j1)
      refine ⟨_, j, c, rfl, rfl, by omega, hc, ?_⟩
      have l3 : (⟨#[c]⟩ : Str).length = 1 := rfl
      refine ⟨_, _, rfl, rfl, by omega, ?_⟩
      walk_at "rd"
      refine ⟨z, rfl, by omega, ?_⟩
      refine ⟨_, _, rfl, rfl, by rw [Str.length_append]; omega, ?_⟩
      exact k _ H11 (by rw [Str.length_append, Str.length_append]; omega) (k110.trans k11) (p11.le (by omega))
    · walk_at "rd"
      refine ⟨z, rfl, by omega, ?_⟩
      walk_at "rd"
      refine ⟨z, rfl, by omega, ?_⟩
      have l4 := cutS_length z (some (((at_ : Nat) : Int) + 1)) none
      have l5 : (cutS z (some (((at_ : Nat) : Int) + 1)) none).length ≤ (cutS z (some ((at_ : Nat) : Int)) none).length := by
        rw [show ((at_ : Nat) : Int) + 1 = ((at_ + 1 : Nat) : Int) from rfl, TL.len_tl, TL.len_tl, tl_from, tl_from, List.length_drop, List.length_drop]
        omega
      refine ⟨_, _, rfl, rfl, by omega, ?_⟩
      exact k _ H10 (by rw [Str.length_append]; omega) k110 (p10.le (by omega))
end
end MP
end
section
open PySem L2 MPX MP
local macro_rules | `(tactic| walk_at "rd1") => `(tactic| first
  | with_reducible refine x_seq ?_
  | with_reducible refine x_next ?_
  | with_reducible refine x_ret ?_
  | with_reducible refine x_retN ?_
  | with_reducible refine x_ifs ?_
  | with_reducible refine x_asg ?_
  | with_reducible refine x_drop ?_
  | with_reducible refine x_name ?_
  | ((with_reducible refine' x_var ?vv ?_); (case vv => exact rfl))
  | with_reducible refine x_c ?_
  | with_reducible refine x_op ?_
  | with_reducible refine x_un ?_
  | with_reducible refine x_test ?_
  | with_reducible refine x_tB ?_
  | with_reducible refine x_and ?_
  | with_reducible refine x_or ?_
  | with_reducible refine x_not ?_
  | with_reducible refine x_andV ?_
  | with_reducible refine x_orV ?_
  | with_reducible refine x_notV ?_
  | with_reducible refine x_if ?_
  | with_reducible refine x_nil ?_
  | with_reducible refine x_cons ?_
  | with_reducible refine x_tup ?_
  | with_reducible refine x_lst ?_
  | with_reducible refine x_cb ?_
  | with_reducible refine x_call ?_
  | with_reducible refine x_callS ?_
  | with_reducible refine x_callP ?_
  | with_reducible refine x_mk0 ?_
  | with_reducible refine x_mk1 ?_
  | with_reducible refine x_mk2 ?_
  | with_reducible refine x_make ?_
  | with_reducible refine x_sfld ?_
  | with_reducible refine x_din ?_
  | with_reducible refine x_dnin ?_
  | with_reducible refine x_fldS ?_
  | with_reducible refine x_sl3 ?_
  | ((with_reducible refine' r_rd ?vr ?vt ?vm ?vl ?vq); (case vr => (with_reducible assumption)); (case vt => assumption); (case vm => decide +kernel); (case vl => exact rfl))
  | with_reducible refine x_m0 ?_
  | with_reducible refine x_m1 ?_
  | with_reducible refine x_bm0 ?_
  | with_reducible refine x_bm ?_
  | with_reducible refine x_par ?_
  | with_reducible refine x_ilist ?_
  | with_reducible refine x_itup ?_
  | with_reducible refine x_istr ?_
  | ((with_reducible show tLc _ _ _ _ _ _ _ _); unfold tLc)
  | ((with_reducible show tFor _ _ _ _ _ _); unfold tFor)
  | ((with_reducible refine' x_eq ?vv ?_); (case vv => exact rfl))
  | ((with_reducible refine' x_ne ?vv ?_); (case vv => exact rfl))
  | with_reducible refine x_rI0 ?_
  | with_reducible refine x_dgetR ?_
  | with_reducible refine x_dputR ?_
  | with_reducible refine x_dnew ?_
  | with_reducible refine x_dget1 ?_
  | with_reducible refine x_dget2 ?_
  | with_reducible refine x_sl ?_
  | with_reducible refine x_nopart ?_
  | with_reducible refine x_part ?_
  | ((with_reducible refine' x_slL ?vv ?_); (case vv => (with_reducible assumption)))
  | with_reducible refine x_disp ?_
  | with_reducible refine x_pcons ?_
  | with_reducible refine x_pnil ?_
  | ((with_reducible refine' x_mod ?vv ?_); (case vv => omega); intro r er hr0 hr1)
  | ((with_reducible refine' x_rI ?vv ?_); (case vv => walk_at "sc"))
  | (with_reducible refine Or.inl (Exists.intro _ (And.intro rfl ?_)))
  | with_reducible refine x_T ?_
  | with_reducible refine x_F ?_
  | ((with_reducible show Exists (α := V) _); (with_reducible apply Exists.intro))
  | ((with_reducible show Exists (α := Bool) _); (with_reducible apply Exists.intro))
  | ((with_reducible show Exists (α := Nat) _); (with_reducible apply Exists.intro))
  | ((with_reducible show Exists (α := Int) _); (with_reducible apply Exists.intro))
  | ((with_reducible show Exists (α := List V) _); (with_reducible apply Exists.intro))
  | ((with_reducible show Exists (α := PySem.Str) _); (with_reducible apply Exists.intro))
  | ((with_reducible show Exists (α := Option V) _); (with_reducible apply Exists.intro))
  | ((with_reducible show Exists (α := Option Int) _); (with_reducible apply Exists.intro))
  | ((with_reducible show Exists (α := List (Key × V)) _); (with_reducible apply Exists.intro))
  | refine And.intro rfl ?_
  | ((with_reducible refine And.intro ?vv ?_); (case vv => (first | (with_reducible assumption) | (show _ ≤ sizeLine; decide) | exact len_ok rfl)))
  | (refine And.intro (Exists.intro _ rfl) ?_))
local macro_rules | `(tactic| walk_at "sc") => `(tactic| first
  | (with_reducible assumption)
  | exact divW (by omega) (by omega)
  | exact mulW (by omega) (by omega)
  | exact Or.inl ⟨by omega, by omega⟩
  | exact Or.inr ⟨by omega, by omega⟩
  | (show (_ : Int) ≠ 0; omega)
  | exact ⟨by decide, by decide, by decide⟩
  | decide)
local macro_rules | `(tactic| walk_at "rd") => `(tactic| repeat walk_at "rd1")
local macro_rules | `(tactic| walk_at "nw") => `(tactic| (intro pX nX; generalize eX : upd _ pX _ = HX; have sX := nw_same eX nX; have qX := nw_at eX; clear eX))
local macro_rules | `(tactic| walk_at "hp") => `(tactic| repeat (first
  | (with_reducible assumption)
  | (with_reducible exact Kept.refl _ _)
  | (with_reducible exact Same.rfl')
  | (with_reducible apply Same.at; with_reducible assumption)
  | (with_reducible apply PenL.up; with_reducible assumption)
  | (with_reducible apply Kept.lst; with_reducible assumption; focus (walk_at "hp"; done))
  | (with_reducible apply Kept.tup; with_reducible assumption; focus (walk_at "hp"; done))
  | focus (with_reducible apply SqL.of; walk_at "hp"; done)
  | (with_reducible apply SqL.up; with_reducible assumption)
  | (with_reducible apply SqL.kp; with_reducible assumption; focus (walk_at "hp"; done))
  | (with_reducible apply Kept.snoc; with_reducible assumption)
  | (with_reducible apply Kept.snocS; with_reducible assumption)
  | (with_reducible apply Same.snoc; with_reducible assumption)
  | assumption))
namespace MP
open PySem L2
section
variable {P : Program} {w : World} {K : PySem.W.Frag} {mg : Str → Option Value} {base : Heap}
def sp_bent : Sp := fun vs H Q _ => ∃ (d cl b : Addr) (z : Str) (ws : List Str) (M N : Nat) (ns : List Int) (n : Nat), vs = [.ref d, .str z, .ref b] ∧ PenL H d cl ns n ∧ n < 800000000 ∧ z.length ≤ M ∧ M ≤ 50000 ∧ H b = some (.lst (ws.map V.str)) ∧ Bd 10000 N ws ∧ 50 ≤ N ∧ N ≤ 10000 ∧ 0 < ws.length ∧
  ∀ y H', y.length ≤ 3 * M + N + 6 → Kept d H H' → PenL H' d cl ns (n + 6) → Q (.str y) H'
theorem ok_bent {f : Addr} {fd : FuncData} (F : Fun K "_law_bent" "_law_bent" s__law_bent f fd) (T : LinTxt mg) (c__law_draw : Cal P w K mg base 1 "_law_draw" sp_draw) (c__law_word : Cal P w K mg base 3 "_law_word" sp_word) : FnOk P w K mg base CX0 4 f fd P__law_bent sp_bent := by
  refine F.ok sc__law_bent (fun vs H Q E h => ?_) (fun cdv A outer s H vs Q E hr h => ?_)
  · obtain ⟨d, cl, b, z, ws, M, N, ns, n, rfl, _⟩ := h
    rfl
  · obtain ⟨d, cl, b, z, ws, M, N, ns, n, rfl, p, hn, hz, hM, hb, bw, hN1, hN2, h0, k⟩ := h
    have hu := hu_of hr
    have big : sizeLine = 16777216 := sizeLine_eq
    refine ⟨_, (pss_cons (ps_set (i := 3) sc__law_bent.nd rfl (Or.inl rfl) (pe_split (pv 1) pe_str))
      (pss_cons (ps_par (i := 4) (j := 5) (by rfl) sc__law_bent.nd rfl rfl (by decide) rfl rfl (pa_cons (pe_cc c__law_draw hr (by decide) rfl (pa_cons (pv 0) (pa_cons (pe_callB call_len_seq (by rfl) T.b_len (by decide +kernel) (pa_cons (pv 3) pa_nil)) pa_nil))) (pa_cons (pe_cc c__law_draw hr (by decide) rfl (pa_cons (pv 0) (pa_cons pe_int pa_nil))) pa_nil)) (by rfl))
      (pss_cons (ps_if (pt_cmpR op_eq (pv 5) pe_int (nomark _)) (pss_one (ps_ret (pe_join pe_str (pe_op op_cat (pe_slice sl_list (pv 3) po_none (po_some (pv 4))) (pe_slice sl_list (pv 3) (po_some (pe_op op_add (pv 4) pe_int)) po_none))))) pss_nil)
      (pss_cons (ps_if (pt_cmpR op_eq (pv 5) pe_int (nomark _)) (pss_one (ps_ret (pe_join pe_str (pe_op op_cat (pe_op op_cat (pe_slice sl_list (pv 3) po_none (po_some (pv 4))) (pe_lst (pa_cons (pe_ix ix_list (pv 3) (pv 4) (fun _ _ => rfl)) pa_nil))) (pe_slice sl_list (pv 3) (po_some (pv 4)) po_none))))) pss_nil)
      (pss_cons (ps_if (pt_cmpR op_eq (pv 5) pe_int (nomark _)) (pss_one (ps_ret (pe_join pe_str (pe_op op_cat (pe_op op_cat (pe_slice sl_list (pv 3) po_none (po_some (pv 4))) (pe_lst (pa_cons (pe_cc c__law_word hr (by decide) rfl (pa_cons (pv 0) (pa_cons (pv 2) pa_nil))) pa_nil))) (pe_slice sl_list (pv 3) (po_some (pv 4)) po_none))))) pss_nil)
      (pss_one (ps_ret (pe_join pe_str (pe_op op_cat (pe_op op_cat (pe_slice sl_list (pv 3) po_none (po_some (pv 4))) (pe_lst (pa_cons (pe_cc c__law_word hr (by decide) rfl (pa_cons (pv 0) (pa_cons (pv 2) pa_nil))) pa_nil))) (pe_slice sl_list (pv 3) (po_some (pe_op op_add (pv 4) pe_int)) po_none)))))))))), ?_⟩
    show tSeq _ _ _ [some (V.ref d), some (V.str z), some (V.ref b), none, none, none] H
    have hzs : z.length + 2 ≤ sizeLine := by omega
    walk_at "rd"
    walk_at "nw"
    rename_i r nr H1 s1 e1
    have hsum := split_sum (x := z) (y := " ") (by decide +kernel) (by decide +kernel)
    have hlen := split_len z " " (by decide +kernel) (by decide +kernel)
    have hpos := split_ne (x := z) (y := " ") (by decide +kernel) (by decide +kernel)
    have p1 := p.mono s1
    have hb1 := s1 _ _ hb
    have k01 : Kept d H H1 := Kept.of s1
    generalize PySem.Txt.split z " " = row at e1 hsum hlen hpos
    clear s1 nr
    walk_at "rd"
    refine ⟨Or.inl (SqL.of e1), ?_⟩
    rw [List.length_map]
    walk_at "rd"
    refine ⟨d, cl, _, ns, _, rfl, p1, by omega, by omega, by omega, fun i H2 i0 i1 k2 p2 => ?_⟩
    obtain ⟨i, rfl⟩ : ∃ k : Nat, i = k := ⟨i.toNat, by omega⟩
    walk_at "rd"
    refine ⟨d, cl, 4, ns, _, rfl, p2, by omega, by omega, by omega, fun so H3 so0 so1 k3 p3 => ?_⟩
    have k23 := k2.trans k3
    have e3 : H3 r = _ := k23.lst p1 e1
    have hb3 : H3 b = _ := k23.lst p1 hb1
    have k13 := k01.trans k23
    clear k2 k3 k23 e1 hb1 p1 p2 k01
    obtain ⟨li, hli⟩ : ∃ l, row[i]? = some l := ⟨row[i]'(by omega), List.getElem?_eq_getElem (by omega)⟩
    have hat : atI (row.map V.str) ((i : Nat) : Int) = some (.str li) := atI_nat (by rw [List.getElem?_map, hli]; rfl)
    have ei1 : ((i : Nat) : Int) + 1 = ((i + 1 : Nat) : Int) := rfl
    have l_b : ((" " : Str)).length = 1 := by decide +kernel
    have htd := sum_td row i
    have hd1 : ((row.drop (i + 1)).map (·.length)).sum ≤ ((row.drop i).map (·.length)).sum := by
      have h := sum_drop (l := row.drop i) (k := 1)
      rw [List.drop_drop] at h
      exact h
    have hlil : li.length ≤ z.length := by
      have h : li.length ≤ (row.map (·.length)).sum := by
        clear htd hd1 hat hlen hpos e3 i1
        have hm := List.mem_of_getElem? hli
        clear hli hsum
        induction row with
        | nil => cases hm
        | cons x t ih =>
          rw [List.map_cons, List.sum_cons]
          rcases List.mem_cons.mp hm with rfl | hm
          · omega
          · have := ih hm; omega
      omega
    walk_at "rd"
    refine x_D (fun _ => ?_) (fun _ => ?_)
    · walk_at "rd"
      refine x_slL (SqL.of e3) ?_
      walk_at "nw"
      rename_i q1 nq1 H5 s5 e5
      rw [cutV_toG, ← List.map_take] at e5
      walk_at "rd"
      refine x_slL (SqL.of (s5 _ _ e3)) ?_
      rw [ei1, cutV_from, ← List.map_drop]
      walk_at "nw"
      rename_i q2 nq2 H6 s6 e6
      refine ⟨q1, q2, _, _, rfl, rfl, s6 _ _ e5, e6, by simp only [List.length_map, List.length_take, List.length_drop]; omega, ?_⟩
      walk_at "nw"
      rename_i q3 nq3 H7 s7 e7
      have k7 := ((k13.trans (Kept.of s5)).trans (Kept.of s6)).trans (Kept.of s7)
      have p7 := ((p3.mono s5).mono s6).mono s7
      have e7' : H7 q3 = some (.lst ((row.take i ++ row.drop (i + 1)).map V.str)) := by rw [e7, List.map_append]
      have hs : ((row.take i ++ row.drop (i + 1)).map (·.length)).sum ≤ z.length := by rw [List.map_append, List.sum_append]; omega
      have hc : (row.take i ++ row.drop (i + 1)).length ≤ z.length + 2 := by rw [List.length_append, List.length_take, List.length_drop]; omega
      have hj := join_sp (row.take i ++ row.drop (i + 1))
      walk_at "rd"
      refine ⟨_, rfl, rfl, Or.inl (SqL.of e7'), by rw [l_b]; omega, ?_⟩
      exact k _ H7 (by omega) k7 (p7.le (by omega))
    walk_at "rd"
    refine x_D (fun _ => ?_) (fun _ => ?_)
    · walk_at "rd"
      refine x_slL (SqL.of e3) ?_
      walk_at "nw"
      rename_i q1 nq1 H5 s5 e5
      rw [cutV_toG, ← List.map_take] at e5
      walk_at "rd"
      refine x_ixL (SqL.of (s5 _ _ e3)) hat ?_
      walk_at "rd"
      walk_at "nw"
      rename_i q2 nq2 H7 s7 e7
      refine ⟨q1, q2, _, _, rfl, rfl, by walk_at "hp", e7, by simp only [List.length_map, List.length_take, List.length_cons, List.length_nil]; omega, ?_⟩
      walk_at "nw"
      rename_i q3 nq3 H8 s8 e8
      have h8 : H8 r = some (.lst (row.map V.str)) := by walk_at "hp"
      walk_at "rd"
      refine x_slL (SqL.of h8) ?_
      rw [cutV_from, ← List.map_drop]
      walk_at "nw"
      rename_i q4 nq4 H9 s9 e9
      have k9 : Kept d H H9 := by walk_at "hp"
      have p9 : PenL H9 d cl ns (n + 1 + 1) := by walk_at "hp"
      refine ⟨q3, q4, _, _, rfl, rfl, s9 _ _ e8, e9, by simp only [List.length_append, List.length_map, List.length_take, List.length_drop, List.length_cons, List.length_nil]; omega, ?_⟩
      walk_at "nw"
      rename_i q5 nq5 H10 s10 e10
      have e10' : H10 q5 = some (.lst ((row.take i ++ [li] ++ row.drop i).map V.str)) := by rw [e10, List.map_append, List.map_append]; rfl
      have hs : ((row.take i ++ [li] ++ row.drop i).map (·.length)).sum ≤ z.length + li.length := by
        rw [List.map_append, List.map_append, List.sum_append, List.sum_append]
        show (_ + (li.length + 0)) + _ ≤ _
        omega
      have hc : (row.take i ++ [li] ++ row.drop i).length ≤ z.length + 2 := by rw [List.length_append, List.length_append, List.length_take, List.length_drop, List.length_singleton]; omega
      have hj := join_sp (row.take i ++ [li] ++ row.drop i)
      walk_at "rd"
      refine ⟨_, rfl, rfl, Or.inl (SqL.of e10'), by rw [l_b]; omega, ?_⟩
      exact k _ H10 (by omega) (k9.trans (Kept.of s10)) ((p9.mono s10).le (by omega))
    walk_at "rd"
    refine x_D (fun _ => ?_) (fun _ => ?_)
    · walk_at "rd"
      refine x_slL (SqL.of e3) ?_
      walk_at "nw"
      rename_i q1 nq1 H5 s5 e5
      rw [cutV_toG, ← List.map_take] at e5
      walk_at "rd"
      refine ⟨d, cl, b, ws, N, ns, _, rfl, by walk_at "hp", by omega, s5 _ _ hb3, bw, hN1, hN2, h0, fun zz H6 zzL k6 p6 => ?_⟩
      walk_at "rd"
      walk_at "nw"
      rename_i q2 nq2 H7 s7 e7
      refine ⟨q1, q2, _, _, rfl, rfl, by walk_at "hp", e7, by simp only [List.length_map, List.length_take, List.length_cons, List.length_nil]; omega, ?_⟩
      walk_at "nw"
      rename_i q3 nq3 H8 s8 e8
      have h8 : H8 r = some (.lst (row.map V.str)) := by walk_at "hp"
      walk_at "rd"
      refine x_slL (SqL.of h8) ?_
      rw [cutV_from, ← List.map_drop]
      walk_at "nw"
      rename_i q4 nq4 H9 s9 e9
      have k9 : Kept d H H9 := by walk_at "hp"
      have p9 : PenL H9 d cl ns (n + 1 + 1 + 4) := by walk_at "hp"
      refine ⟨q3, q4, _, _, rfl, rfl, s9 _ _ e8, e9, by simp only [List.length_append, List.length_map, List.length_take, List.length_drop, List.length_cons, List.length_nil]; omega, ?_⟩
      walk_at "nw"
      rename_i q5 nq5 H10 s10 e10
      have e10' : H10 q5 = some (.lst ((row.take i ++ [zz] ++ row.drop i).map V.str)) := by rw [e10, List.map_append, List.map_append]; rfl
      have hs : ((row.take i ++ [zz] ++ row.drop i).map (·.length)).sum ≤ z.length + zz.length := by
        rw [List.map_append, List.map_append, List.sum_append, List.sum_append]
        show (_ + (zz.length + 0)) + _ ≤ _
        omega
      have hc : (row.take i ++ [zz] ++ row.drop i).length ≤ z.length + 2 := by rw [List.length_append, List.length_append, List.length_take, List.length_drop, List.length_singleton]; omega
      have hj := join_sp (row.take i ++ [zz] ++ row.drop i)
      walk_at "rd"
      refine ⟨_, rfl, rfl, Or.inl (SqL.of e10'), by rw [l_b]; omega, ?_⟩
      exact k _ H10 (by omega) (k9.trans (Kept.of s10)) ((p9.mono s10).le (by omega))
    walk_at "rd"
    refine x_slL (SqL.of e3) ?_
    walk_at "nw"
    rename_i q1 nq1 H5 s5 e5
    rw [cutV_toG, ← List.map_take] at e5
    walk_at "rd"
    refine ⟨d, cl, b, ws, N, ns, _, rfl, by walk_at "hp", by omega, s5 _ _ hb3, bw, hN1, hN2, h0, fun zz H6 zzL k6 p6 => ?_⟩
    walk_at "rd"
    walk_at "nw"
    rename_i q2 nq2 H7 s7 e7
    refine ⟨q1, q2, _, _, rfl, rfl, by walk_at "hp", e7, by simp only [List.length_map, List.length_take, List.length_cons, List.length_nil]; omega, ?_⟩
    walk_at "nw"
    rename_i q3 nq3 H8 s8 e8
    have h8 : H8 r = some (.lst (row.map V.str)) := by walk_at "hp"
    walk_at "rd"
    refine x_slL (SqL.of h8) ?_
    rw [ei1, cutV_from, ← List.map_drop]
    walk_at "nw"
    rename_i q4 nq4 H9 s9 e9
    have k9 : Kept d H H9 := by walk_at "hp"
    have p9 : PenL H9 d cl ns (n + 1 + 1 + 4) := by walk_at "hp"
    refine ⟨q3, q4, _, _, rfl, rfl, s9 _ _ e8, e9, by simp only [List.length_append, List.length_map, List.length_take, List.length_drop, List.length_cons, List.length_nil]; omega, ?_⟩
    walk_at "nw"
    rename_i q5 nq5 H10 s10 e10
    have e10' : H10 q5 = some (.lst ((row.take i ++ [zz] ++ row.drop (i + 1)).map V.str)) := by rw [e10, List.map_append, List.map_append]; rfl
    have hs : ((row.take i ++ [zz] ++ row.drop (i + 1)).map (·.length)).sum ≤ z.length + zz.length := by
      rw [List.map_append, List.map_append, List.sum_append, List.sum_append]
      show (_ + (zz.length + 0)) + _ ≤ _
      omega
    have hc : (row.take i ++ [zz] ++ row.drop (i + 1)).length ≤ z.length + 2 := by rw [List.length_append, List.length_append, List.length_take, List.length_drop, List.length_singleton]; omega
    have hj := join_sp (row.take i ++ [zz] ++ row.drop (i + 1))
    walk_at "rd"
    refine ⟨_, rfl, rfl, Or.inl (SqL.of e10'), by rw [l_b]; omega, ?_⟩
    exact k _ H10 (by omega) (k9.trans (Kept.of s10)) ((p9.mono s10).le (by omega))
end
end MP
end
section
open PySem L2 MPX MP
local macro_rules | `(tactic| walk_at "rd1") => `(tactic| first
  | with_reducible refine x_seq ?_
  | with_reducible refine x_next ?_
  | with_reducible refine x_ret ?_
  | with_reducible refine x_retN ?_
  | with_reducible refine x_ifs ?_
  | with_reducible refine x_asg ?_
  | with_reducible refine x_drop ?_
  | with_reducible refine x_name ?_
  | ((with_reducible refine' x_var ?vv ?_); (case vv => exact rfl))
  | with_reducible refine x_c ?_
  | with_reducible refine x_op ?_
  | with_reducible refine x_un ?_
  | with_reducible refine x_test ?_
  | with_reducible refine x_tB ?_
  | with_reducible refine x_and ?_
  | with_reducible refine x_or ?_
  | with_reducible refine x_not ?_
  | with_reducible refine x_andV ?_
  | with_reducible refine x_orV ?_
  | with_reducible refine x_notV ?_
  | with_reducible refine x_if ?_
  | with_reducible refine x_nil ?_
  | with_reducible refine x_cons ?_
  | with_reducible refine x_tup ?_
  | with_reducible refine x_lst ?_
  | with_reducible refine x_cb ?_
  | with_reducible refine x_call ?_
  | with_reducible refine x_callS ?_
  | with_reducible refine x_callP ?_
  | with_reducible refine x_mk0 ?_
  | with_reducible refine x_mk1 ?_
  | with_reducible refine x_mk2 ?_
  | with_reducible refine x_make ?_
  | with_reducible refine x_sfld ?_
  | with_reducible refine x_din ?_
  | with_reducible refine x_dnin ?_
  | with_reducible refine x_fldS ?_
  | with_reducible refine x_sl3 ?_
  | ((with_reducible refine' r_rd ?vr ?vt ?vm ?vl ?vq); (case vr => (with_reducible assumption)); (case vt => assumption); (case vm => decide +kernel); (case vl => exact rfl))
  | with_reducible refine x_m0 ?_
  | with_reducible refine x_m1 ?_
  | with_reducible refine x_bm0 ?_
  | with_reducible refine x_bm ?_
  | with_reducible refine x_par ?_
  | with_reducible refine x_ilist ?_
  | with_reducible refine x_itup ?_
  | with_reducible refine x_istr ?_
  | ((with_reducible show tLc _ _ _ _ _ _ _ _); unfold tLc)
  | ((with_reducible show tFor _ _ _ _ _ _); unfold tFor)
  | ((with_reducible refine' x_eq ?vv ?_); (case vv => exact rfl))
  | ((with_reducible refine' x_ne ?vv ?_); (case vv => exact rfl))
  | with_reducible refine x_rI0 ?_
  | with_reducible refine x_dgetR ?_
  | with_reducible refine x_dputR ?_
  | with_reducible refine x_dnew ?_
  | with_reducible refine x_dget1 ?_
  | with_reducible refine x_dget2 ?_
  | with_reducible refine x_sl ?_
  | with_reducible refine x_nopart ?_
  | with_reducible refine x_part ?_
  | ((with_reducible refine' x_slL ?vv ?_); (case vv => (with_reducible assumption)))
  | with_reducible refine x_disp ?_
  | with_reducible refine x_pcons ?_
  | with_reducible refine x_pnil ?_
  | ((with_reducible refine' x_mod ?vv ?_); (case vv => omega); intro r er hr0 hr1)
  | ((with_reducible refine' x_rI ?vv ?_); (case vv => walk_at "sc"))
  | (with_reducible refine Or.inl (Exists.intro _ (And.intro rfl ?_)))
  | with_reducible refine x_T ?_
  | with_reducible refine x_F ?_
  | ((with_reducible show Exists (α := V) _); (with_reducible apply Exists.intro))
  | ((with_reducible show Exists (α := Bool) _); (with_reducible apply Exists.intro))
  | ((with_reducible show Exists (α := Nat) _); (with_reducible apply Exists.intro))
  | ((with_reducible show Exists (α := Int) _); (with_reducible apply Exists.intro))
  | ((with_reducible show Exists (α := List V) _); (with_reducible apply Exists.intro))
  | ((with_reducible show Exists (α := PySem.Str) _); (with_reducible apply Exists.intro))
  | ((with_reducible show Exists (α := Option V) _); (with_reducible apply Exists.intro))
  | ((with_reducible show Exists (α := Option Int) _); (with_reducible apply Exists.intro))
  | ((with_reducible show Exists (α := List (Key × V)) _); (with_reducible apply Exists.intro))
  | refine And.intro rfl ?_
  | ((with_reducible refine And.intro ?vv ?_); (case vv => (first | (with_reducible assumption) | (show _ ≤ sizeLine; decide) | exact len_ok rfl)))
  | (refine And.intro (Exists.intro _ rfl) ?_))
local macro_rules | `(tactic| walk_at "sc") => `(tactic| first
  | (with_reducible assumption)
  | exact divW (by omega) (by omega)
  | exact mulW (by omega) (by omega)
  | exact Or.inl ⟨by omega, by omega⟩
  | exact Or.inr ⟨by omega, by omega⟩
  | (show (_ : Int) ≠ 0; omega)
  | exact ⟨by decide, by decide, by decide⟩
  | decide)
local macro_rules | `(tactic| walk_at "rd") => `(tactic| repeat walk_at "rd1")
local macro_rules | `(tactic| walk_at "nw") => `(tactic| (intro pX nX; generalize eX : upd _ pX _ = HX; have sX := nw_same eX nX; have qX := nw_at eX; clear eX))
local macro_rules | `(tactic| walk_at "hp") => `(tactic| repeat (first
  | (with_reducible assumption)
  | (with_reducible exact Kept.refl _ _)
  | (with_reducible exact Same.rfl')
  | (with_reducible apply Same.at; with_reducible assumption)
  | (with_reducible apply PenL.up; with_reducible assumption)
  | (with_reducible apply Kept.lst; with_reducible assumption; focus (walk_at "hp"; done))
  | (with_reducible apply Kept.tup; with_reducible assumption; focus (walk_at "hp"; done))
  | focus (with_reducible apply SqL.of; walk_at "hp"; done)
  | (with_reducible apply SqL.up; with_reducible assumption)
  | (with_reducible apply SqL.kp; with_reducible assumption; focus (walk_at "hp"; done))
  | (with_reducible apply Kept.snoc; with_reducible assumption)
  | (with_reducible apply Kept.snocS; with_reducible assumption)
  | (with_reducible apply Same.snoc; with_reducible assumption)
  | assumption))
namespace MP
open PySem L2
section
variable {P : Program} {w : World} {K : PySem.W.Frag} {mg : Str → Option Value} {base : Heap}
abbrev s_law : Stmt := topS 63
abbrev N_law : List Str := ["_law_script", "_law_pen_here", "_law_lines_here", "_law_words", "_law_line", "_law_turn", "_law_bent_here", "_law_change", "_law_at", "_law_text"]
abbrev P_law : List Str := ["_law_script"]
theorem sc_law : FnScope N_law P_law (defScope s_law) := ⟨rfl, rfl, rfl, by decide +kernel, rfl, by decide +kernel, by decide +kernel⟩
theorem mass_mem {L : List Str} {z : Str} (h : z ∈ L) : z.length ≤ massOf L := by
  induction L with
  | nil => cases h
  | cons a r ih =>
    have e : massOf (a :: r) = a.length + 1 + massOf r := by simp [massOf]
    rcases List.mem_cons.mp h with rfl | h
    · omega
    · have := ih h
      omega
theorem sum_mass : ∀ L : List Str, (L.map (·.length)).sum ≤ massOf L
  | [] => Nat.le_refl _
  | a :: r => by
    have e : massOf (a :: r) = a.length + 1 + massOf r := by simp [massOf]
    have h := sum_mass r
    rw [List.map_cons, List.sum_cons]
    omega
theorem mass_take (L : List Str) (i : Nat) {x : Str} (h : L[i]? = some x) : massOf (L.take (i + 1)) = massOf (L.take i) + (x.length + 1) := by
  rw [List.take_add_one, h]
  exact mass_snoc _ _
theorem mass_take_le (L : List Str) (i : Nat) : massOf (L.take i) ≤ massOf L := by
  have h : massOf L = massOf (L.take i) + massOf (L.drop i) := by rw [← mass_app, List.take_append_drop]
  omega
structure LawT (P : Program) (w : World) (K : PySem.W.Frag) (mg : Str → Option Value) (base : Heap) : Prop where
  b_len : mg "len" = none
  b_list : mg "list" = none
  b_range : mg "range" = none
  b_min : mg "min" = none
  c__law_pen : Cal P w K mg base 1 "_law_pen" (sp_pen K)
  c__law_draw : Cal P w K mg base 1 "_law_draw" sp_draw
  c__law_lines : Cal P w K mg base 15 "_law_lines" sp_lines
  c__law_bent : Cal P w K mg base 4 "_law_bent" sp_bent
  c__law_told : Cal P w K mg base 10 "_law_told" sp_told
  c__law_due : Cal P w K mg base 5 "_law_due" sp_due
def sp_law (K : PySem.W.Frag) : Sp := fun vs H Q _ => ∃ (a : Addr) (ns : List Int), vs = [.ref a] ∧ SqL K H a (ns.map V.int) ∧ ns.length ≤ 63 ∧ ∀ H', Q (.bl true) H'
theorem ok_law {f : Addr} {fd : FuncData} (F : Fun K "law" "law" s_law f fd) (T : LawT P w K mg base) : FnOk P w K mg base CX0 16 f fd P_law (sp_law K) := by
  refine F.ok sc_law (fun vs H Q E h => ?_) (fun cdv A outer s H vs Q E hr h => ?_)
  · obtain ⟨a, ns, rfl, _⟩ := h
    rfl
  · obtain ⟨a, ns, rfl, hs, hl, k⟩ := h
    have hu := hu_of hr
    have big : sizeLine = 16777216 := sizeLine_eq
    obtain ⟨b_len, b_list, b_range, b_min, c__law_pen, c__law_draw, c__law_lines, c__law_bent, c__law_told, c__law_due⟩ := id T
    refine ⟨_, (pss_cons (ps_set (i := 1) sc_law.nd rfl (Or.inl rfl) (pe_cc c__law_pen hr (by decide) rfl (pa_cons (pv 0) pa_nil)))
      (pss_cons (ps_set (i := 2) sc_law.nd rfl (Or.inl rfl) (pe_cc c__law_lines hr (by decide) rfl (pa_cons (pv 1) (pa_cons pe_int (pa_cons (pe_op op_add pe_int (pe_callB (call_min2 rfl) (by rfl) T.b_min (by decide +kernel) (pa_cons pe_int (pa_cons (pe_op op_mulW pe_int (pe_callB call_len_seq (by rfl) T.b_len (by decide +kernel) (pa_cons (pv 0) pa_nil))) pa_nil)))) pa_nil)))))
      (pss_cons (ps_if (PW.pt (pw_or (pt_cmpR op_notN (pe_cc c__law_told hr (by decide) rfl (pa_cons (pe_join pe_str (pv 2)) pa_nil)) pe_non (nomark _)) (pw_or1 (pt_cmpR op_notN (pe_cc c__law_due hr (by decide) rfl (pa_cons (pe_join pe_str (pv 2)) pa_nil)) pe_non (nomark _))))) (pss_one (ps_ret pe_bl)) pss_nil)
      (pss_cons (ps_set (i := 3) sc_law.nd rfl (Or.inl rfl) (pe_lst pa_nil))
      (pss_cons (ps_for PassesOwn.never rfl (pi_list (pv 2)) (pg_name (i := 4) sc_law.nd rfl (Or.inl rfl))
      (pss_one (ps_set (i := 3) sc_law.nd rfl (Or.inl rfl) (pe_op op_cat (pv 3) (pe_split (pv 4) pe_str)))))
      (pss_cons (ps_for PassesOwn.never rfl (pi_range1 rfl T.b_range (pa_cons (pe_op op_add pe_int (pe_callB (call_min2 rfl) (by rfl) T.b_min (by decide +kernel) (pa_cons pe_int (pa_cons (pe_callB call_len_seq (by rfl) T.b_len (by decide +kernel) (pa_cons (pv 0) pa_nil)) pa_nil)))) pa_nil)) (pg_name (i := 5) sc_law.nd rfl (Or.inl rfl))
      (pss_cons (ps_set (i := 6) sc_law.nd rfl (Or.inl rfl) (pe_callTy call_list_of (by rfl) T.b_list (by decide +kernel) (pa_cons (pv 2) pa_nil)))
      (pss_cons (ps_for PassesOwn.never rfl (pi_range1 rfl T.b_range (pa_cons (pe_op op_add pe_int (pe_cc c__law_draw hr (by decide) rfl (pa_cons (pv 1) (pa_cons pe_int pa_nil)))) pa_nil)) (pg_name (i := 7) sc_law.nd rfl (Or.inl rfl))
        (pss_cons (ps_set (i := 8) sc_law.nd rfl (Or.inl rfl) (pe_cc c__law_draw hr (by decide) rfl (pa_cons (pv 1) (pa_cons (pe_callB call_len_seq (by rfl) T.b_len (by decide +kernel) (pa_cons (pv 6) pa_nil)) pa_nil))))
        (pss_one (ps_asg (pe_cc c__law_bent hr (by decide) rfl (pa_cons (pv 1) (pa_cons (pe_ix ix_list (pv 6) (pv 8) (fun _ _ => rfl)) (pa_cons (pv 3) pa_nil)))) (pg_sub (pv 6) (pv 8) set_list)))))
      (pss_cons (ps_set (i := 9) sc_law.nd rfl (Or.inl rfl) (pe_join pe_str (pv 6)))
      (pss_one (ps_if (pt_cmpR (op_neD hr.units) (pe_cc c__law_told hr (by decide) rfl (pa_cons (pv 9) pa_nil)) (pe_cc c__law_due hr (by decide) rfl (pa_cons (pv 9) pa_nil)) (nomark _)) (pss_one (ps_ret pe_bl)) pss_nil))))))
      (pss_one (ps_ret pe_bl)))))))), ?_⟩
    show tSeq _ _ _ [some (V.ref a), none, none, none, none, none, none, none, none, none] H
    walk_at "rd"
    refine ⟨a, ns, rfl, hs, hl, fun d H1 s1 nd pn1 => ?_⟩
    obtain ⟨cl, a0, b0, pa, pl⟩ := pn1
    have p1 : PenL H1 d cl ns 0 := ⟨a0, b0, pa, pl⟩
    have hs1 := s1.seq hs
    clear pa pl s1 nd hs
    walk_at "rd"
    refine ⟨Or.inl hs1, ?_⟩
    rw [List.length_map]
    walk_at "rd"
    have hrm : ∃ r : Int, r = 6 + (if 2 * (ns.length : Int) < 14 then 2 * (ns.length : Int) else 14) ∧ 0 ≤ r ∧ r ≤ 20 := ⟨_, rfl, by split <;> omega, by split <;> omega⟩
    obtain ⟨room, hroom, hrm0, hrm1⟩ := hrm
    rw [← hroom]
    refine ⟨d, cl, 3, room, ns, 0, rfl, p1, by omega, by omega, hrm0, by omega, fun L H2 ls S n2 ok k2 nL p2 hn2 e2 => ?_⟩
    have hs2 := k2.seqL p1 hs1
    have hm := ok.mass
    have hll := ok.len
    have hgl := ok.ge
    have l_n : (("\n" : Str)).length = 1 := by decide +kernel
    have hlm : ∀ z ∈ ls, z.length ≤ 3700 := fun z hz => by have := mass_mem hz; omega
    have hsum := sum_mass ls
    walk_at "rd"
    refine ⟨ls, rfl, rfl, Or.inl (SqL.of e2), by rw [l_n]; omega, ?_⟩
    have hdue := due_none ok.rd ok.ne ok.en (by omega) (by omega)
    have hjl := join_mass ok.ne
    walk_at "rd"
    refine ⟨_, rfl, by omega, fun v1 H4 s4 r1 => ?_⟩
    rw [hdue] at r1
    cases (show v1 = .non from r1)
    have e4 : H4 L = some (.lst (ls.map V.str)) := s4 _ _ e2
    walk_at "rd"
    refine ⟨ls, rfl, rfl, Or.inl (SqL.of e4), by rw [l_n]; omega, ?_⟩
    walk_at "rd"
    refine ⟨_, rfl, by omega, fun v2 H5 s5 r2 => ?_⟩
    rw [hdue] at r2
    cases (show v2 = .non from r2)
    walk_at "rd"
    refine x_cF (by rw [decide_eq_true rfl]; rfl) ?_
    have e5 : H5 L = some (.lst (ls.map V.str)) := s5 _ _ e4
    have p5 := (p2.mono s4).mono s5
    have hs5 := s5.seq (s4.seq hs2)
    clear hs1 hs2 k2 p1 p2 e2 e4 s4 s5 r1 r2 nL hdue hjl
    walk_at "rd"
    walk_at "nw"
    rename_i W0 nW0 H6 s6 e6
    have e6' : H6 W0 = some (.lst (([] : List Str).map V.str)) := e6
    have e6L := s6 _ _ e5
    have p6 := p5.mono s6
    have hs6 := s6.seq hs5
    clear e5 p5 hs5 s6 nW0 e6
    walk_at "rd"
    have hmn : massOf ls ≤ 3701 := by omega
    refine ⟨⟨_, SqL.of e6L⟩, for_list (xs := ls.map V.str) (fun i σ H' => Hold (∃ (W : Addr) (ws : List Str) (x4 : Option V), σ = [some (V.ref a), some (V.ref d), some (V.ref L), some (V.ref W), x4, none, none, none, none, none] ∧ H' W = some (.lst (ws.map V.str)) ∧ (∀ z ∈ ws, z.length ≤ 3700) ∧ ws.length ≤ massOf (ls.take i) ∧ i ≤ ws.length ∧ H' L = some (.lst (ls.map V.str)) ∧ PenL H' d cl ns n2 ∧ SqL K H' a (ns.map V.int)))
      ⟨W0, [], none, rfl, e6', (fun z h => by cases h), Nat.zero_le _, Nat.le_refl _, e6L, p6, hs6⟩ (fun i σ H' _ ⟨_, _, _, _, _, _, _, _, e, _⟩ => SqL.of e) ?_ ?_⟩
    · clear e6' e6L p6 hs6
      rintro i x σ H7 hi ⟨W, ws, x4, rfl, e7, hw1, hw2, hw3, e7L, p7, hs7⟩
      obtain ⟨ln, hln, hli, rfl⟩ := mem_at hi
      have hll2 := hlm ln hln
      have hmt := mass_take ls i hli
      have hmle := mass_take_le ls (i + 1)
      have hln2 : ln.length + 2 ≤ sizeLine := by omega
      walk_at "rd"
      walk_at "nw"
      rename_i r nr H8 s8 e8
      have hsp := split_len ln " " (by decide +kernel) (by decide +kernel)
      have hpos := split_ne (x := ln) (y := " ") (by decide +kernel) (by decide +kernel)
      have hel : ∀ z ∈ PySem.Txt.split ln " ", z.length ≤ 3700 := fun z hz => by have := split_le (x := ln) (y := " ") (by decide +kernel) (by decide +kernel) hz; omega
      generalize PySem.Txt.split ln " " = row at e8 hsp hpos hel
      refine ⟨W, r, _, _, rfl, rfl, s8 _ _ e7, e8, by rw [List.length_map, List.length_map]; omega, ?_⟩
      walk_at "nw"
      rename_i W2 nW2 H9 s9 e9
      walk_at "rd"
      exact ⟨W2, ws ++ row, _, rfl, by rw [e9, List.map_append], fun z hz => (List.mem_append.mp hz).elim (hw1 z) (hel z), by rw [List.length_append]; omega, by rw [List.length_append]; omega, s9 _ _ (s8 _ _ e7L), (p7.mono s8).mono s9, s9.seq (s8.seq hs7)⟩
    clear e6' e6L p6 hs6
    rintro σ H7 ⟨W, ws, x4, rfl, e7, hw1, hw2, hw3, e7L, p7, hs7⟩
    rw [List.length_map] at hw2 hw3
    rw [List.take_length] at hw2
    have bw : Bd 10000 3700 ws := ⟨by omega, hw1⟩
    walk_at "rd"
    refine x_rgV ?_
    walk_at "rd"
    refine ⟨Or.inl hs7, ?_⟩
    rw [List.length_map]
    walk_at "rd"
    generalize hN : (8 + (if (ns.length : Int) < 12 then (ns.length : Int) else 12)).toNat = N
    have hN2 : N ≤ 20 := by subst hN; split <;> omega
    refine ⟨by split <;> omega, by split <;> omega, ?_⟩
    refine for_range (n := N) (fun i σ H' => Hold (∃ (x5 x6 x7 x8 x9 : Option V), σ = [some (V.ref a), some (V.ref d), some (V.ref L), some (V.ref W), x4, x5, x6, x7, x8, x9] ∧ H' L = some (.lst (ls.map V.str)) ∧ H' W = some (.lst (ws.map V.str)) ∧ PenL H' d cl ns (n2 + 40 * i))) ⟨_, _, _, _, _, rfl, e7L, e7, p7⟩ ?_ ?_
    · clear e7 e7L p7 hs7
      rintro i σ H8 hi ⟨x5, x6, x7, x8, x9, rfl, e8L, e8W, p8⟩
      walk_at "rd"
      refine ⟨Or.inl (SqL.of e8L), ?_⟩
      walk_at "nw"
      rename_i B nB H9 s9 e9
      have p9 := p8.mono s9
      have e9L := s9 _ _ e8L
      have e9W := s9 _ _ e8W
      have nBd := p8.ne nB
      have nBL : L ≠ B := ne_of_none e8L nB
      have nBW : W ≠ B := ne_of_none e8W nB
      clear p8 s9 nB e8L e8W
      walk_at "rd"
      refine x_rgV ?_
      walk_at "rd"
      refine ⟨d, cl, 3, ns, _, rfl, p9, by omega, by omega, by omega, fun z H10 z0 z1 k10 p10 => ?_⟩
      have e10 := k10.lst p9 e9
      have e10L := k10.lst p9 e9L
      have e10W := k10.lst p9 e9W
      clear k10 p9 e9 e9L e9W
      walk_at "rd"
      refine ⟨by omega, by omega, ?_⟩
      refine for_range (n := (1 + z).toNat) (fun j σ H' => Hold (∃ (l : List Str) (M : Nat) (x7 x8 : Option V), σ = [some (V.ref a), some (V.ref d), some (V.ref L), some (V.ref W), x4, some (V.int (0 + i)), some (V.ref B), x7, x8, x9] ∧ H' B = some (.lst (l.map V.str)) ∧ l.length = ls.length ∧ (∀ y ∈ l, y.length ≤ M) ∧ (j = 0 → M = 3700) ∧ (j = 1 → M = 14806) ∧ (j = 2 → M = 48124) ∧ M ≤ 148078 ∧ H' L = some (.lst (ls.map V.str)) ∧ H' W = some (.lst (ws.map V.str)) ∧ PenL H' d cl ns (n2 + 40 * i + 1 + 8 * j))) ⟨ls, 3700, _, _, rfl, e10, rfl, hlm, fun _ => rfl, fun h => absurd h (by decide), fun h => absurd h (by decide), by decide, e10L, e10W, p10⟩ ?_ ?_
      · clear e10 e10L e10W p10
        rintro j σ H11 hj ⟨l, M, x7, x8, rfl, e11, hl1, hl2, hj0, hj1, hj2, hjM, e11L, e11W, p11⟩
        have hM : M ≤ 48124 := by
          rcases (show j = 0 ∨ j = 1 ∨ j = 2 by omega) with h | h | h
          · rw [hj0 h]; decide
          · rw [hj1 h]; decide
          · rw [hj2 h]; decide
        walk_at "rd"
        refine ⟨Or.inl (SqL.of e11), ?_⟩
        rw [List.length_map]
        walk_at "rd"
        refine ⟨d, cl, _, ns, _, rfl, p11, by omega, by omega, by omega, fun t H12 t0 t1 k12 p12 => ?_⟩
        obtain ⟨t, rfl⟩ : ∃ k : Nat, t = k := ⟨t.toNat, by omega⟩
        have e12 := k12.lst p11 e11
        have e12L := k12.lst p11 e11L
        have e12W := k12.lst p11 e11W
        clear k12 p11 e11 e11L e11W
        obtain ⟨ln, hln⟩ : ∃ x, l[t]? = some x := ⟨l[t]'(by omega), List.getElem?_eq_getElem (by omega)⟩
        walk_at "rd"
        refine x_ixL (SqL.of e12) (v := .str ln) (atI_nat (by rw [List.getElem?_map, hln]; rfl)) ?_
        walk_at "rd"
        refine ⟨d, cl, W, ln, ws, M, 3700, ns, _, rfl, p12, by omega, hl2 ln (List.mem_of_getElem? hln), by omega, e12W, bw, by decide, by decide, by omega, fun y H13 hy k13 p13 => ?_⟩
        have e13 := k13.lst p12 e12
        have e13L := k13.lst p12 e12L
        have e13W := k13.lst p12 e12W
        have hset : (l.map V.str).set t (V.str y) = (l.set t y).map V.str := by rw [List.map_set]
        have hix : ixN (l.map V.str).length ((t : Nat) : Int) = some t := by
          rw [List.length_map]
          show (if (0 : Int) ≤ ((t : Nat) : Int) then (if ((t : Nat) : Int) < ((l.length : Nat) : Int) then some ((t : Nat) : Int).toNat else none) else _) = some t
          rw [if_pos (by omega), if_pos (by omega)]
          rfl
        refine ⟨_, rfl, _, rfl, B, _, _, t, rfl, rfl, e13, hix, ?_⟩
        rw [hset]
        refine ⟨l.set t y, 3 * M + 3706, _, _, rfl, upd_same, by rw [List.length_set]; exact hl1, fun u hu => ?_, fun h => absurd h (by omega), fun h => by rw [hj0 (by omega)], fun h => by rw [hj1 (by omega)], by omega, (upd_ne nBL).trans e13L, (upd_ne nBW).trans e13W, (p13.off nBd.1 nBd.2).le (by omega)⟩
        rcases List.mem_or_eq_of_mem_set hu with h | h
        · have := hl2 u h; omega
        · rw [h]; omega
      · clear e10 e10L e10W p10
        rintro σ H11 ⟨l, M, x7, x8, rfl, e11, hl1, hl2, hj0, hj1, hj2, hjM, e11L, e11W, p11⟩
        have bl : Bd 60 148078 l := ⟨by omega, fun y hy => Nat.le_trans (hl2 y hy) hjM⟩
        have hls := bl.sum
        have hln := bl.n
        have hjl2 := join_leB (sep := ("\n" : Str)) bl
        rw [l_n] at hjl2
        walk_at "rd"
        refine ⟨l, rfl, rfl, Or.inl (SqL.of e11), by rw [l_n]; omega, ?_⟩
        generalize Txt.join ("\n" : Str) l = tx at hjl2 ⊢
        walk_at "rd"
        refine ⟨tx, rfl, by omega, fun v1 H12 s12 r1 => ?_⟩
        walk_at "rd"
        refine ⟨tx, rfl, by omega, fun v2 H13 s13 r2 => ?_⟩
        refine x_neRes (r1.same s13) r2 ?_
        walk_at "rd"
        exact ⟨_, _, _, _, _, rfl, s13 _ _ (s12 _ _ e11L), s13 _ _ (s12 _ _ e11W), ((p11.mono s12).mono s13).le (by omega)⟩
    · rintro σ H8 ⟨x5, x6, x7, x8, x9, rfl, e8L, e8W, p8⟩
      walk_at "rd"
      exact k _
end
end MP
end
section
namespace MPX
open PySem PySem.W PySem.Calls PyProof.Rows PySem.Spec
/-! ### the facts of an own exception class, as the top has made it -/
def errB (K : Frag) (C : Addr) : Bool :=
  decide (findIn K (.ref C) "__setattr__" = some (some (.builtin "object.__setattr__"))) && (keepIn K (.ref C) && (decide (subIn K (.ref C) (.type "BaseException") = some true) && (decide (subIn K (.ref C) (.type "ValueError") = some true) &&
  (decide (typeIn K (.ref C) = some (.type "type")) && (decide (ks_superIn K C C "__init__" = some (some (.builtin "ValueError.__init__"))) && (decide (mroIn K C (.ref C) = some true) &&
  (decide (nsIn K cStatics "thirdparty.any" = some none) && (decide (findIn K (.ref C) "__getattribute__" = some (some (.builtin "BaseException.__getattribute__"))) && (decide (findIn K (.ref C) "__getattr__" = some none) && (hasDictIn K C &&
  (decide (findIn K (.ref C) "__class__" = some (some (.builtin "object.__class__"))) && (decide (specialIn K (.builtin "object.__class__") "__get__" = some (some (.builtin "getset_descriptor.__get__"))) && (decide (takesIn K (.builtin "object.__class__") = some true) &&
  (decide (mroIn K C (.type "object") = some true) && (["line", "mode", "what", "index", "value", "paper"] : List Str).all fun n => decide (findIn K (.ref C) n = some none)))))))))))))))
theorem and_l {a b : Bool} (h : (a && b) = true) : a = true := (Bool.and_eq_true_iff.mp h).1
theorem and_r {a b : Bool} (h : (a && b) = true) : b = true := (Bool.and_eq_true_iff.mp h).2
theorem and_d {p : Prop} [Decidable p] {b : Bool} (h : (decide p && b) = true) : p := of_decide_eq_true (and_l h)
section
variable {K : Frag} {C : Addr}
theorem errB_ok (h : errB K C = true) : findIn K (.ref C) "__setattr__" = some (some (.builtin "object.__setattr__")) ∧ keepIn K (.ref C) = true ∧ subIn K (.ref C) (.type "BaseException") = some true ∧ subIn K (.ref C) (.type "ValueError") = some true ∧
    typeIn K (.ref C) = some (.type "type") ∧ ks_superIn K C C "__init__" = some (some (.builtin "ValueError.__init__")) ∧ mroIn K C (.ref C) = some true ∧ nsIn K cStatics "thirdparty.any" = some none ∧ L2.ExcC K C ∧ L2.XfC K C ∧
    ∀ n ∈ (["line", "mode", "what", "index", "value", "paper"] : List Str), findIn K (.ref C) n = some none := by
  unfold errB at h
  have h1 := and_d h
  have h := and_r h
  have h2 := and_l h
  have h := and_r h
  have h3 := and_d h
  have h := and_r h
  have h4 := and_d h
  have h := and_r h
  have h5 := and_d h
  have h := and_r h
  have h6 := and_d h
  have h := and_r h
  have h7 := and_d h
  have h := and_r h
  have h8 := and_d h
  have h := and_r h
  have h9 := and_d h
  have h := and_r h
  have h10 := and_d h
  have h := and_r h
  have h11 := and_l h
  have h := and_r h
  have h12 := and_d h
  have h := and_r h
  have h13 := and_d h
  have h := and_r h
  have h14 := and_d h
  have h := and_r h
  have h15 := and_d h
  have h := and_r h
  exact ⟨h1, h2, h3, h4, h5, h6, h7, h8, ⟨h9, h10, h3, h11, h12, h13, h14, h15⟩, ⟨h9, h10, h3, h11⟩, fun n hn => of_decide_eq_true (List.all_eq_true.mp h n hn)⟩
variable {prog : Program} {fI cda cc N : Addr} {ps : List Str} {body : List Stmt} {nm q qual file : Str} {bs bm : List Value} {sn : List Str} {sub : List Value} {ab : Bool} {col : Option Bool} {dd od cdd cld an : Option Addr} {k0 k1 k2 k3 k5 : Option Value}
  {oc dV kV doc pm ct ccl cl : Value} {osl ccs csl : Array (Option Value)} {vs : Array Value} {tf : Tok} {ar : Arg} {params : Arguments} {scope : Scope}
theorem supC_mk (eB : errB K C = true) (xL : K.lookup C = some (excClassObj nm q C N bs bm true sn sub ab col dd k0 k1 k2 k3 k5 "ValueError.__new__")) (bV : HandSPX.refsVE bm = true)
    (iC : findIn K (.ref C) "__init__" = some (some (.ref fI))) (tI : typeIn K (.ref fI) = some (.type "function")) (top : (prog.main.scope.names.lookup ("super" : Str)).isSome = false)
    (lF : K.lookup fI = some ⟨oc, od, .func (ksFn "__init__" qual params body scope dV kV doc pm an (.ref cda) ct cc), osl⟩) (cF : codeIn K (.ref cda) qual = true)
    (lC : K.lookup cda = some ⟨ccl, cdd, .fields vs, ccs⟩) (v2 : vs[2]? = some (.str file tf)) (mf : ((prog.main.file : Str) == file) = true) (lc : K.lookup cc = some ⟨cl, cld, .cell (some (.ref C)), csl⟩)
    (a1 : (params.posonlyargs ++ params.args).head? = some ar) (a2 : ar.arg = "self") (bd : ∀ us : List Value, us.length = ps.length → bindArgs (ksFn "__init__" qual params body scope dV kV doc pm an (.ref cda) ct cc) ⟨us, []⟩ = pure (ps.zip us))
    (n1 : scope.names.lookup ("super" : Str) = some .globalImplicit) (n2 : scope.names.lookup ("__class__" : Str) = some .free) (n3 : ∀ y ∈ ps, scope.names.lookup y = some .local) (n4 : ∀ x ∈ scope.names, x.2 ≠ .cell)
    (co : scope.isCoroutine = false) (ge : scope.isGenerator = false) (ki : scope.kind = .function) : SupC prog K C fI ps body := by
  obtain ⟨h1, h2, h3, h4, h5, h6, h7, h8, _⟩ := errB_ok eB
  exact ⟨⟨_, _, _, _, _, _, _, _, _, _, _, _, _, _, _, xL, bV⟩, h1, iC, tI, h2, h3, h4, h5, h6, h7, h8, top, qual, params, scope, oc, od, dV, kV, doc, pm, ct, an, osl, cda, cc, ccl, cl, cdd, cld, ccs, csl, vs, file, tf, ar, lF, cF, lC, v2, mf, lc, a1, a2, bd, n1, n2, n3, n4, co, ge, ki⟩
/-! what all errors say of each other -/
def kitB (K : Frag) (cs : List Addr) (CM : Addr) : Bool := (List.range 15).all fun i => errB K (cs.getD i 0) && (decide (kitOne K (.ref (cs.getD i 0)) (.type "ValueError") = some true) && (decide (exmOne K (.ref (cs.getD i 0)) (.ref CM) = some true) &&
  (List.range 15).all fun j => decide (kitOne K (.ref (cs.getD i 0)) (.ref (cs.getD j 0)) = some (decide (j = i)))))
end
end MPX
end
section
open PySem L2 MPX MP
local macro_rules | `(tactic| walk_at "rd1") => `(tactic| first
  | with_reducible refine x_seq ?_
  | with_reducible refine x_next ?_
  | with_reducible refine x_ret ?_
  | with_reducible refine x_retN ?_
  | with_reducible refine x_ifs ?_
  | with_reducible refine x_asg ?_
  | with_reducible refine x_drop ?_
  | with_reducible refine x_name ?_
  | ((with_reducible refine' x_var ?vv ?_); (case vv => exact rfl))
  | with_reducible refine x_c ?_
  | with_reducible refine x_op ?_
  | with_reducible refine x_un ?_
  | with_reducible refine x_test ?_
  | with_reducible refine x_tB ?_
  | with_reducible refine x_and ?_
  | with_reducible refine x_or ?_
  | with_reducible refine x_not ?_
  | with_reducible refine x_andV ?_
  | with_reducible refine x_orV ?_
  | with_reducible refine x_notV ?_
  | with_reducible refine x_if ?_
  | with_reducible refine x_nil ?_
  | with_reducible refine x_cons ?_
  | with_reducible refine x_tup ?_
  | with_reducible refine x_lst ?_
  | with_reducible refine x_cb ?_
  | with_reducible refine x_call ?_
  | with_reducible refine x_callS ?_
  | with_reducible refine x_callP ?_
  | with_reducible refine x_mk0 ?_
  | with_reducible refine x_mk1 ?_
  | with_reducible refine x_mk2 ?_
  | with_reducible refine x_make ?_
  | with_reducible refine x_sfld ?_
  | with_reducible refine x_m0 ?_
  | with_reducible refine x_m1 ?_
  | with_reducible refine x_bm0 ?_
  | with_reducible refine x_bm ?_
  | with_reducible refine x_par ?_
  | with_reducible refine x_ilist ?_
  | with_reducible refine x_itup ?_
  | with_reducible refine x_istr ?_
  | ((with_reducible show tLc _ _ _ _ _ _ _ _); unfold tLc)
  | ((with_reducible show tFor _ _ _ _ _ _); unfold tFor)
  | ((with_reducible refine' x_eq ?vv ?_); (case vv => exact rfl))
  | ((with_reducible refine' x_ne ?vv ?_); (case vv => exact rfl))
  | with_reducible refine x_rI0 ?_
  | with_reducible refine x_dget ?_
  | with_reducible refine x_dput ?_
  | with_reducible refine x_dnew ?_
  | with_reducible refine x_dget1 ?_
  | with_reducible refine x_dget2 ?_
  | with_reducible refine x_sl ?_
  | with_reducible refine x_nopart ?_
  | with_reducible refine x_part ?_
  | ((with_reducible refine' x_slL ?vv ?_); (case vv => (with_reducible assumption)))
  | with_reducible refine x_disp ?_
  | with_reducible refine x_pcons ?_
  | with_reducible refine x_pnil ?_
  | ((with_reducible refine' x_mod ?vv ?_); (case vv => omega); intro r er hr0 hr1; (try clear er))
  | ((with_reducible refine' x_rI ?vv ?_); (case vv => walk_at "sc"))
  | (with_reducible refine Or.inl (Exists.intro _ (And.intro rfl ?_)))
  | with_reducible refine x_T ?_
  | with_reducible refine x_F ?_
  | ((with_reducible show Exists (α := V) _); (with_reducible apply Exists.intro))
  | ((with_reducible show Exists (α := Bool) _); (with_reducible apply Exists.intro))
  | ((with_reducible show Exists (α := Nat) _); (with_reducible apply Exists.intro))
  | ((with_reducible show Exists (α := Int) _); (with_reducible apply Exists.intro))
  | ((with_reducible show Exists (α := List V) _); (with_reducible apply Exists.intro))
  | ((with_reducible show Exists (α := PySem.Str) _); (with_reducible apply Exists.intro))
  | ((with_reducible show Exists (α := Option V) _); (with_reducible apply Exists.intro))
  | ((with_reducible show Exists (α := Option Int) _); (with_reducible apply Exists.intro))
  | ((with_reducible show Exists (α := List (Key × V)) _); (with_reducible apply Exists.intro))
  | refine And.intro rfl ?_
  | ((with_reducible refine And.intro ?vv ?_); (case vv => (first | (with_reducible assumption) | (show _ ≤ sizeLine; decide) | exact len_ok rfl)))
  | (refine And.intro (Exists.intro _ rfl) ?_))
local macro_rules | `(tactic| walk_at "sc") => `(tactic| first
  | (with_reducible assumption)
  | exact divW (by omega) (by omega)
  | exact mulW (by omega) (by omega)
  | exact Or.inl ⟨by omega, by omega⟩
  | exact Or.inr ⟨by omega, by omega⟩
  | (show (_ : Int) ≠ 0; omega)
  | exact ⟨by decide, by decide, by decide⟩
  | decide)
local macro_rules | `(tactic| walk_at "rd") => `(tactic| repeat walk_at "rd1")
namespace MP
open PySem L2 MPX 
section
variable {prog : Program} {K : PySem.W.Frag} {h : Heap} {mg : Str → Option Value} {x y z f g m : Str} {C fI : Addr} {j : Nat} {p0 p1 p2 p3 p4 p5 q0 q1 q2 q3 r0 r1 r2 r3 : Pos}
theorem exc0_mk (X : K.In h) (G : h.Ns mainGlobals mg) (aC : PySem.W.nsIn K mainGlobals x = some (some (.ref C))) (su : PySem.W.nsIn K mainGlobals "super" = some none) (S : SupC prog K C fI ["self"] [supRow m j p0 p1 p2 p3 p4 p5]) (ev : SupEv m j p0 p1 p2 p3 p4) : Exc0 prog K mg x C :=
  ⟨⟨_, _, _, _, _, _, _, _, _, S, ev⟩, PySem.W.mg_of X G aC, PySem.W.mg_none_of X G su⟩
theorem exc1_mk (X : K.In h) (G : h.Ns mainGlobals mg) (aC : PySem.W.nsIn K mainGlobals x = some (some (.ref C))) (su : PySem.W.nsIn K mainGlobals "super" = some none) (S : SupC prog K C fI ["self", y] [supRow m j p0 p1 p2 p3 p4 p5, stRow f y q0 q1 q2 q3]) (ev : SupEv m j p0 p1 p2 p3 p4)
    (ne : ("self" : Str) ≠ y) (nd : (y == ("__debug__" : Str)) = false) (n1 : PySem.W.findIn K (.ref C) f = some none) : Exc1 prog K mg x C f :=
  ⟨⟨_, _, _, _, _, _, _, _, _, _, _, _, _, _, S, ev, ne, nd⟩, n1, PySem.W.mg_of X G aC, PySem.W.mg_none_of X G su⟩
theorem exc2_mk (X : K.In h) (G : h.Ns mainGlobals mg) (aC : PySem.W.nsIn K mainGlobals x = some (some (.ref C))) (su : PySem.W.nsIn K mainGlobals "super" = some none) (S : SupC prog K C fI ["self", y, z] [supRow m j p0 p1 p2 p3 p4 p5, stRow f y q0 q1 q2 q3, stRow g z r0 r1 r2 r3]) (ev : SupEv m j p0 p1 p2 p3 p4)
    (ne : (["self", y, z] : List Str).Nodup) (nd : (y == ("__debug__" : Str)) = false) (nd2 : (z == ("__debug__" : Str)) = false) (n1 : PySem.W.findIn K (.ref C) f = some none) (n2 : PySem.W.findIn K (.ref C) g = some none) : Exc2 prog K mg x C f g :=
  ⟨⟨_, _, _, _, _, _, _, _, _, _, _, _, _, _, _, _, _, _, _, S, ev, ne, nd, nd2⟩, n1, n2, PySem.W.mg_of X G aC, PySem.W.mg_none_of X G su⟩
end
/-- what a class of the program must have, as a Boolean -/
def clsB (K : PySem.W.Frag) (C f : Addr) (at_ : List Str) : Bool := PySem.W.plainGet K C Str.empty && (PySem.W.hasDictIn K C && (PySem.W.plainOver K C && (PySem.W.makesIn K C && (PySem.W.isFn K (.ref f) && (PySem.W.keepIn K (.ref C) && at_.all fun n => decide (PySem.W.findIn K (.ref C) n = some none))))))
section
variable {K : PySem.W.Frag} {C f : Addr} {at_ : List Str}
theorem cls_of (h : clsB K C f at_ = true) (s : PySem.W.findIn K (.ref C) "__setattr__" = some (some (.builtin "object.__setattr__"))) : Cls K C := ⟨and_l h, and_l (and_r h), and_l (and_r (and_r h)), s⟩
theorem na_of (h : clsB K C f at_ = true) : ∀ n ∈ at_, NoAttr K C n := fun n hn => of_decide_eq_true (p := PySem.W.findIn K (.ref C) n = some none) (List.all_eq_true.mp (and_r (and_r (and_r (and_r (and_r (and_r h)))))) n hn)
theorem mk_of (h : clsB K C f at_ = true) (i : PySem.W.findIn K (.ref C) "__init__" = some (some (.ref f))) : Mk K C f := ⟨and_l (and_r (and_r (and_r h))), i, and_l (and_r (and_r (and_r (and_r h)))), and_l (and_r (and_r (and_r (and_r (and_r h)))))⟩
end
/-- a tuple of texts in the written part -/
def strsB : List Str → List Value → Bool
  | [], [] => true
  | a :: r, .str b _ :: t => decide (a = b) && strsB r t
  | _, _ => false
def kwB (K : PySem.W.Frag) (kw : Addr) : Bool := match K.lookup kw with
  | some ⟨.type c, _, .seq its _, _⟩ => decide (c = "tuple") && (decide (its.size ≤ 100) && strsB keyW its.toList)
  | _ => false
theorem strs_of : ∀ {l : List Str} {vs : List Value}, strsB l vs = true → Vals (l.map V.str) vs
  | [], [], _ => .nil
  | a :: r, .str b t :: q, h => by
    have e : a = b := and_d h
    subst e
    exact .cons ⟨t, rfl⟩ (strs_of (and_r h))
theorem kw_of {K : PySem.W.Frag} {kw : Addr} (h : kwB K kw = true) (H : Hp) : SqT K H kw (keyW.map V.str) := by
  unfold kwB at h
  split at h
  · rename_i c d its n sl e
    have hc : c = "tuple" := and_d h
    subst hc
    have hz : its.size ≤ 100 := and_d (and_r h)
    have big : sizeLine = 16777216 := sizeLine_eq
    exact .inr ⟨_, its, n, e, rfl, rfl, by omega, strs_of (and_r (and_r h))⟩
  · cases h
/-- constants of the module -/
def strB1 (K : PySem.W.Frag) (x z : Str) : Bool := match PySem.W.nsIn K mainGlobals x with
  | some (some (.str y _)) => decide (y = z)
  | _ => false
def intB1 (K : PySem.W.Frag) (x : Str) (z : Int) : Bool := match PySem.W.nsIn K mainGlobals x with
  | some (some (.int y _)) => decide (y = z)
  | _ => false
theorem str1_of {K : PySem.W.Frag} {x z : Str} (h : strB1 K x z = true) : ∃ t, PySem.W.nsIn K mainGlobals x = some (some (.str z t)) := by
  unfold strB1 at h
  split at h
  · rename_i y t e
    rw [of_decide_eq_true h] at e
    exact ⟨t, e⟩
  · cases h
theorem int1_of {K : PySem.W.Frag} {x : Str} {z : Int} (h : intB1 K x z = true) : ∃ t, PySem.W.nsIn K mainGlobals x = some (some (.int z t)) := by
  unfold intB1 at h
  split at h
  · rename_i y t e
    rw [of_decide_eq_true h] at e
    exact ⟨t, e⟩
  · cases h
theorem all_mk {l : PySem.W.OpenLaw} {w : World} {K : PySem.W.Frag} {h : Heap} {mg : Str → Option Value} {fa : Addr} (X : K.In h) (G : h.Ns mainGlobals mg) (hfa : mg "law" = some (.ref fa))
    {CM kw CRd CP CB CT f__law_pen f__law_draw f__law_pick f__law_names f__law_work f__law_piece f__law_body f__law_lines f__law_word f__law_bent f_words_of f_is_made_of f_is_name f_is_price f_item_of f_read_start f_read_proc f_read_end f_read_block f_read_or f_read_leave f_read_do f_read_mode f_read_inside f_read_line f_read_text f__law_is_name f__law_is_price f__law_mode_right f__law_start_right f__law_do_right f__law_inside_right f__law_line_right f__law_due f__law_told f_Reading_init f_Program_init f_law : Addr}
    (a__law_pen : PySem.W.nsIn K mainGlobals "_law_pen" = some (some (.ref f__law_pen)))
    (F__law_pen : ∃ fd, Fun K "_law_pen" "_law_pen" s__law_pen f__law_pen fd)
    (a__law_draw : PySem.W.nsIn K mainGlobals "_law_draw" = some (some (.ref f__law_draw)))
    (F__law_draw : ∃ fd, Fun K "_law_draw" "_law_draw" s__law_draw f__law_draw fd)
    (a__law_pick : PySem.W.nsIn K mainGlobals "_law_pick" = some (some (.ref f__law_pick)))
    (F__law_pick : ∃ fd, Fun K "_law_pick" "_law_pick" s__law_pick f__law_pick fd)
    (a__law_names : PySem.W.nsIn K mainGlobals "_law_names" = some (some (.ref f__law_names)))
    (F__law_names : ∃ fd, Fun K "_law_names" "_law_names" s__law_names f__law_names fd)
    (a__law_work : PySem.W.nsIn K mainGlobals "_law_work" = some (some (.ref f__law_work)))
    (F__law_work : ∃ fd, Fun K "_law_work" "_law_work" s__law_work f__law_work fd)
    (a__law_piece : PySem.W.nsIn K mainGlobals "_law_piece" = some (some (.ref f__law_piece)))
    (F__law_piece : ∃ fd, Fun K "_law_piece" "_law_piece" s__law_piece f__law_piece fd)
    (a__law_body : PySem.W.nsIn K mainGlobals "_law_body" = some (some (.ref f__law_body)))
    (F__law_body : ∃ fd, Fun K "_law_body" "_law_body" s__law_body f__law_body fd)
    (a__law_lines : PySem.W.nsIn K mainGlobals "_law_lines" = some (some (.ref f__law_lines)))
    (F__law_lines : ∃ fd, Fun K "_law_lines" "_law_lines" s__law_lines f__law_lines fd)
    (a__law_word : PySem.W.nsIn K mainGlobals "_law_word" = some (some (.ref f__law_word)))
    (F__law_word : ∃ fd, Fun K "_law_word" "_law_word" s__law_word f__law_word fd)
    (a__law_bent : PySem.W.nsIn K mainGlobals "_law_bent" = some (some (.ref f__law_bent)))
    (F__law_bent : ∃ fd, Fun K "_law_bent" "_law_bent" s__law_bent f__law_bent fd)
    (a_words_of : PySem.W.nsIn K mainGlobals "words_of" = some (some (.ref f_words_of)))
    (F_words_of : ∃ fd, Fun K "words_of" "words_of" s_words_of f_words_of fd)
    (a_is_made_of : PySem.W.nsIn K mainGlobals "is_made_of" = some (some (.ref f_is_made_of)))
    (F_is_made_of : ∃ fd, Fun K "is_made_of" "is_made_of" s_is_made_of f_is_made_of fd)
    (a_is_name : PySem.W.nsIn K mainGlobals "is_name" = some (some (.ref f_is_name)))
    (F_is_name : ∃ fd, Fun K "is_name" "is_name" s_is_name f_is_name fd)
    (a_is_price : PySem.W.nsIn K mainGlobals "is_price" = some (some (.ref f_is_price)))
    (F_is_price : ∃ fd, Fun K "is_price" "is_price" s_is_price f_is_price fd)
    (a_item_of : PySem.W.nsIn K mainGlobals "item_of" = some (some (.ref f_item_of)))
    (F_item_of : ∃ fd, Fun K "item_of" "item_of" s_item_of f_item_of fd)
    (a_read_start : PySem.W.nsIn K mainGlobals "read_start" = some (some (.ref f_read_start)))
    (F_read_start : ∃ fd, Fun K "read_start" "read_start" s_read_start f_read_start fd)
    (a_read_proc : PySem.W.nsIn K mainGlobals "read_proc" = some (some (.ref f_read_proc)))
    (F_read_proc : ∃ fd, Fun K "read_proc" "read_proc" s_read_proc f_read_proc fd)
    (a_read_end : PySem.W.nsIn K mainGlobals "read_end" = some (some (.ref f_read_end)))
    (F_read_end : ∃ fd, Fun K "read_end" "read_end" s_read_end f_read_end fd)
    (a_read_block : PySem.W.nsIn K mainGlobals "read_block" = some (some (.ref f_read_block)))
    (F_read_block : ∃ fd, Fun K "read_block" "read_block" s_read_block f_read_block fd)
    (a_read_or : PySem.W.nsIn K mainGlobals "read_or" = some (some (.ref f_read_or)))
    (F_read_or : ∃ fd, Fun K "read_or" "read_or" s_read_or f_read_or fd)
    (a_read_leave : PySem.W.nsIn K mainGlobals "read_leave" = some (some (.ref f_read_leave)))
    (F_read_leave : ∃ fd, Fun K "read_leave" "read_leave" s_read_leave f_read_leave fd)
    (a_read_do : PySem.W.nsIn K mainGlobals "read_do" = some (some (.ref f_read_do)))
    (F_read_do : ∃ fd, Fun K "read_do" "read_do" s_read_do f_read_do fd)
    (a_read_mode : PySem.W.nsIn K mainGlobals "read_mode" = some (some (.ref f_read_mode)))
    (F_read_mode : ∃ fd, Fun K "read_mode" "read_mode" s_read_mode f_read_mode fd)
    (a_read_inside : PySem.W.nsIn K mainGlobals "read_inside" = some (some (.ref f_read_inside)))
    (F_read_inside : ∃ fd, Fun K "read_inside" "read_inside" s_read_inside f_read_inside fd)
    (a_read_line : PySem.W.nsIn K mainGlobals "read_line" = some (some (.ref f_read_line)))
    (F_read_line : ∃ fd, Fun K "read_line" "read_line" s_read_line f_read_line fd)
    (a_read_text : PySem.W.nsIn K mainGlobals "read_text" = some (some (.ref f_read_text)))
    (F_read_text : ∃ fd, Fun K "read_text" "read_text" s_read_text f_read_text fd)
    (a__law_is_name : PySem.W.nsIn K mainGlobals "_law_is_name" = some (some (.ref f__law_is_name)))
    (F__law_is_name : ∃ fd, Fun K "_law_is_name" "_law_is_name" s__law_is_name f__law_is_name fd)
    (a__law_is_price : PySem.W.nsIn K mainGlobals "_law_is_price" = some (some (.ref f__law_is_price)))
    (F__law_is_price : ∃ fd, Fun K "_law_is_price" "_law_is_price" s__law_is_price f__law_is_price fd)
    (a__law_mode_right : PySem.W.nsIn K mainGlobals "_law_mode_right" = some (some (.ref f__law_mode_right)))
    (F__law_mode_right : ∃ fd, Fun K "_law_mode_right" "_law_mode_right" s__law_mode_right f__law_mode_right fd)
    (a__law_start_right : PySem.W.nsIn K mainGlobals "_law_start_right" = some (some (.ref f__law_start_right)))
    (F__law_start_right : ∃ fd, Fun K "_law_start_right" "_law_start_right" s__law_start_right f__law_start_right fd)
    (a__law_do_right : PySem.W.nsIn K mainGlobals "_law_do_right" = some (some (.ref f__law_do_right)))
    (F__law_do_right : ∃ fd, Fun K "_law_do_right" "_law_do_right" s__law_do_right f__law_do_right fd)
    (a__law_inside_right : PySem.W.nsIn K mainGlobals "_law_inside_right" = some (some (.ref f__law_inside_right)))
    (F__law_inside_right : ∃ fd, Fun K "_law_inside_right" "_law_inside_right" s__law_inside_right f__law_inside_right fd)
    (a__law_line_right : PySem.W.nsIn K mainGlobals "_law_line_right" = some (some (.ref f__law_line_right)))
    (F__law_line_right : ∃ fd, Fun K "_law_line_right" "_law_line_right" s__law_line_right f__law_line_right fd)
    (a__law_due : PySem.W.nsIn K mainGlobals "_law_due" = some (some (.ref f__law_due)))
    (F__law_due : ∃ fd, Fun K "_law_due" "_law_due" s__law_due f__law_due fd)
    (a__law_told : PySem.W.nsIn K mainGlobals "_law_told" = some (some (.ref f__law_told)))
    (F__law_told : ∃ fd, Fun K "_law_told" "_law_told" s__law_told f__law_told fd)
    (a_law : PySem.W.nsIn K mainGlobals "law" = some (some (.ref f_law)))
    (F_law : ∃ fd, Fun K "law" "law" s_law f_law fd)
    (a_Reading : PySem.W.nsIn K mainGlobals "Reading" = some (some (.ref CRd)))
    (i_Reading : PySem.W.findIn K (.ref CRd) "__init__" = some (some (.ref f_Reading_init)))
    (F_Reading_init : ∃ fd, Fun K "__init__" "Reading.__init__" s_Reading___init__ f_Reading_init fd)
    (c_Reading : clsB K CRd f_Reading_init rall = true)
    (s_Reading : PySem.W.findIn K (.ref CRd) "__setattr__" = some (some (.builtin "object.__setattr__")))
    (a_Program : PySem.W.nsIn K mainGlobals "Program" = some (some (.ref CP)))
    (i_Program : PySem.W.findIn K (.ref CP) "__init__" = some (some (.ref f_Program_init)))
    (F_Program_init : ∃ fd, Fun K "__init__" "Program.__init__" s_Program___init__ f_Program_init fd)
    (c_Program : clsB K CP f_Program_init pall = true)
    (s_Program : PySem.W.findIn K (.ref CP) "__setattr__" = some (some (.builtin "object.__setattr__")))
    (e_BadText : Exc1 l.prog K mg "BadText" CB "line")
    (e_TooMany : Exc1 l.prog K mg "TooMany" CT "what")
    (y_len : PySem.W.nsIn K mainGlobals "len" = some none)
    (y_int : PySem.W.nsIn K mainGlobals "int" = some none)
    (y_list : PySem.W.nsIn K mainGlobals "list" = some none)
    (y_tuple : PySem.W.nsIn K mainGlobals "tuple" = some none)
    (y_zip : PySem.W.nsIn K mainGlobals "zip" = some none)
    (y_reversed : PySem.W.nsIn K mainGlobals "reversed" = some none)
    (y_enumerate : PySem.W.nsIn K mainGlobals "enumerate" = some none)
    (y_range : PySem.W.nsIn K mainGlobals "range" = some none)
    (y_str : PySem.W.nsIn K mainGlobals "str" = some none)
    (y_min : PySem.W.nsIn K mainGlobals "min" = some none)
    (y_isinstance : PySem.W.nsIn K mainGlobals "isinstance" = some none)
    (y_set : PySem.W.nsIn K mainGlobals "set" = some none)
    (a_LETTERS : ∃ t, PySem.W.nsIn K mainGlobals "LETTERS" = some (some (.str lettersS t)))
    (a_DIGITS : ∃ t, PySem.W.nsIn K mainGlobals "DIGITS" = some (some (.str digitsS t)))
    (a_LONGEST_NAME : ∃ t, PySem.W.nsIn K mainGlobals "LONGEST_NAME" = some (some (.int 12 t)))
    (a_MOST_PRICE : ∃ t, PySem.W.nsIn K mainGlobals "MOST_PRICE" = some (some (.int 1000000000000000000000000000000 t)))
    (a_MOST_DIGITS : ∃ t, PySem.W.nsIn K mainGlobals "MOST_DIGITS" = some (some (.int 31 t)))
    (a_MOST_CHARACTERS : ∃ t, PySem.W.nsIn K mainGlobals "MOST_CHARACTERS" = some (some (.int 6000 t)))
    (a_MOST_LINES : ∃ t, PySem.W.nsIn K mainGlobals "MOST_LINES" = some (some (.int 120 t)))
    (a_MOST_MODES : ∃ t, PySem.W.nsIn K mainGlobals "MOST_MODES" = some (some (.int 6 t)))
    (a_MOST_VALUES : ∃ t, PySem.W.nsIn K mainGlobals "MOST_VALUES" = some (some (.int 6 t)))
    (a_MOST_PROCEDURES : ∃ t, PySem.W.nsIn K mainGlobals "MOST_PROCEDURES" = some (some (.int 6 t)))
    (a_MOST_BLOCKS : ∃ t, PySem.W.nsIn K mainGlobals "MOST_BLOCKS" = some (some (.int 8 t)))
    (a_MOST_ITEMS : ∃ t, PySem.W.nsIn K mainGlobals "MOST_ITEMS" = some (some (.int 6 t)))
    (a_KEYWORDS : PySem.W.nsIn K mainGlobals "KEYWORDS" = some (some (.ref kw)))
    (kwb : kwB K kw = true)
    (a_BadText : PySem.W.nsIn K mainGlobals "BadText" = some (some (.ref CB)))
    (a_TooMany : PySem.W.nsIn K mainGlobals "TooMany" = some (some (.ref CT)))
    (a_ModeError : PySem.W.nsIn K mainGlobals "ModeError" = some (some (.ref CM)))
    (xB : errB K CB = true)
    (xT : errB K CT = true)
    (kB : PySem.W.kitOne K (.ref CB) (.ref CM) = some true)
    (kT : PySem.W.kitOne K (.ref CT) (.ref CM) = some true)
    (xBB : PySem.W.exmOne K (.ref CB) (.ref CB) = some true)
    (xTT : PySem.W.exmOne K (.ref CT) (.ref CT) = some true)
    (xTB : PySem.W.exmOne K (.ref CT) (.ref CB) = some false)
    : ∃ fd : FuncData, (∀ (s : Shared) (v : Value), BindsTo s fd ⟨[v], []⟩ [("_law_script", v)]) ∧ ∀ base : Heap, K.In base → base.Ns mainGlobals mg → FnOk l.prog w K mg base CX0 16 fa fd P_law (sp_law K) := by
  have e := hfa.symm.trans (PySem.W.mg_of X G a_law)
  cases e
  obtain ⟨fd__law_pen, F__law_pen⟩ := F__law_pen
  obtain ⟨fd__law_draw, F__law_draw⟩ := F__law_draw
  obtain ⟨fd__law_pick, F__law_pick⟩ := F__law_pick
  obtain ⟨fd__law_names, F__law_names⟩ := F__law_names
  obtain ⟨fd__law_work, F__law_work⟩ := F__law_work
  obtain ⟨fd__law_piece, F__law_piece⟩ := F__law_piece
  obtain ⟨fd__law_body, F__law_body⟩ := F__law_body
  obtain ⟨fd__law_lines, F__law_lines⟩ := F__law_lines
  obtain ⟨fd__law_word, F__law_word⟩ := F__law_word
  obtain ⟨fd__law_bent, F__law_bent⟩ := F__law_bent
  obtain ⟨fd_words_of, F_words_of⟩ := F_words_of
  obtain ⟨fd_is_made_of, F_is_made_of⟩ := F_is_made_of
  obtain ⟨fd_is_name, F_is_name⟩ := F_is_name
  obtain ⟨fd_is_price, F_is_price⟩ := F_is_price
  obtain ⟨fd_item_of, F_item_of⟩ := F_item_of
  obtain ⟨fd_read_start, F_read_start⟩ := F_read_start
  obtain ⟨fd_read_proc, F_read_proc⟩ := F_read_proc
  obtain ⟨fd_read_end, F_read_end⟩ := F_read_end
  obtain ⟨fd_read_block, F_read_block⟩ := F_read_block
  obtain ⟨fd_read_or, F_read_or⟩ := F_read_or
  obtain ⟨fd_read_leave, F_read_leave⟩ := F_read_leave
  obtain ⟨fd_read_do, F_read_do⟩ := F_read_do
  obtain ⟨fd_read_mode, F_read_mode⟩ := F_read_mode
  obtain ⟨fd_read_inside, F_read_inside⟩ := F_read_inside
  obtain ⟨fd_read_line, F_read_line⟩ := F_read_line
  obtain ⟨fd_read_text, F_read_text⟩ := F_read_text
  obtain ⟨fd__law_is_name, F__law_is_name⟩ := F__law_is_name
  obtain ⟨fd__law_is_price, F__law_is_price⟩ := F__law_is_price
  obtain ⟨fd__law_mode_right, F__law_mode_right⟩ := F__law_mode_right
  obtain ⟨fd__law_start_right, F__law_start_right⟩ := F__law_start_right
  obtain ⟨fd__law_do_right, F__law_do_right⟩ := F__law_do_right
  obtain ⟨fd__law_inside_right, F__law_inside_right⟩ := F__law_inside_right
  obtain ⟨fd__law_line_right, F__law_line_right⟩ := F__law_line_right
  obtain ⟨fd__law_due, F__law_due⟩ := F__law_due
  obtain ⟨fd__law_told, F__law_told⟩ := F__law_told
  obtain ⟨fdlaw, F_law⟩ := F_law
  obtain ⟨fd_Reading_init, F_Reading_init⟩ := F_Reading_init
  obtain ⟨fd_Program_init, F_Program_init⟩ := F_Program_init
  obtain ⟨t_LETTERS, a_LETTERS⟩ := a_LETTERS
  obtain ⟨t_DIGITS, a_DIGITS⟩ := a_DIGITS
  obtain ⟨t_LONGEST_NAME, a_LONGEST_NAME⟩ := a_LONGEST_NAME
  obtain ⟨t_MOST_PRICE, a_MOST_PRICE⟩ := a_MOST_PRICE
  obtain ⟨t_MOST_DIGITS, a_MOST_DIGITS⟩ := a_MOST_DIGITS
  obtain ⟨t_MOST_CHARACTERS, a_MOST_CHARACTERS⟩ := a_MOST_CHARACTERS
  obtain ⟨t_MOST_LINES, a_MOST_LINES⟩ := a_MOST_LINES
  obtain ⟨t_MOST_MODES, a_MOST_MODES⟩ := a_MOST_MODES
  obtain ⟨t_MOST_VALUES, a_MOST_VALUES⟩ := a_MOST_VALUES
  obtain ⟨t_MOST_PROCEDURES, a_MOST_PROCEDURES⟩ := a_MOST_PROCEDURES
  obtain ⟨t_MOST_BLOCKS, a_MOST_BLOCKS⟩ := a_MOST_BLOCKS
  obtain ⟨t_MOST_ITEMS, a_MOST_ITEMS⟩ := a_MOST_ITEMS
  have z_len := PySem.W.mg_none_of X G y_len
  have z_int := PySem.W.mg_none_of X G y_int
  have z_list := PySem.W.mg_none_of X G y_list
  have z_tuple := PySem.W.mg_none_of X G y_tuple
  have z_zip := PySem.W.mg_none_of X G y_zip
  have z_reversed := PySem.W.mg_none_of X G y_reversed
  have z_enumerate := PySem.W.mg_none_of X G y_enumerate
  have z_range := PySem.W.mg_none_of X G y_range
  have z_str := PySem.W.mg_none_of X G y_str
  have z_min := PySem.W.mg_none_of X G y_min
  have z_isinstance := PySem.W.mg_none_of X G y_isinstance
  have z_set := PySem.W.mg_none_of X G y_set
  have cl_Reading := cls_of c_Reading s_Reading
  have na_Reading := na_of c_Reading
  have mk_Reading := mk_of c_Reading i_Reading
  have cl_Program := cls_of c_Program s_Program
  have na_Program := na_of c_Program
  have mk_Program := mk_of c_Program i_Program
  have b__law_pen := F__law_pen.binds (ps := P__law_pen) fun _ _ _ _ _ _ us hl => match us, hl with | [_], _ => rfl
  have b__law_draw := F__law_draw.binds (ps := P__law_draw) fun _ _ _ _ _ _ us hl => match us, hl with | [_, _], _ => rfl
  have b__law_pick := F__law_pick.binds (ps := P__law_pick) fun _ _ _ _ _ _ us hl => match us, hl with | [_, _], _ => rfl
  have b__law_names := F__law_names.binds (ps := P__law_names) fun _ _ _ _ _ _ us hl => match us, hl with | [_, _], _ => rfl
  have b__law_work := F__law_work.binds (ps := P__law_work) fun _ _ _ _ _ _ us hl => match us, hl with | [_, _], _ => rfl
  have b__law_piece := F__law_piece.binds (ps := P__law_piece) fun _ _ _ _ _ _ us hl => match us, hl with | [_, _, _, _], _ => rfl
  have b__law_body := F__law_body.binds (ps := P__law_body) fun _ _ _ _ _ _ us hl => match us, hl with | [_, _, _, _], _ => rfl
  have b__law_lines := F__law_lines.binds (ps := P__law_lines) fun _ _ _ _ _ _ us hl => match us, hl with | [_, _, _], _ => rfl
  have b__law_word := F__law_word.binds (ps := P__law_word) fun _ _ _ _ _ _ us hl => match us, hl with | [_, _], _ => rfl
  have b__law_bent := F__law_bent.binds (ps := P__law_bent) fun _ _ _ _ _ _ us hl => match us, hl with | [_, _, _], _ => rfl
  have b_words_of := F_words_of.binds (ps := P_words_of) fun _ _ _ _ _ _ us hl => match us, hl with | [_], _ => rfl
  have b_is_made_of := F_is_made_of.binds (ps := P_is_made_of) fun _ _ _ _ _ _ us hl => match us, hl with | [_, _], _ => rfl
  have b_is_name := F_is_name.binds (ps := P_is_name) fun _ _ _ _ _ _ us hl => match us, hl with | [_], _ => rfl
  have b_is_price := F_is_price.binds (ps := P_is_price) fun _ _ _ _ _ _ us hl => match us, hl with | [_], _ => rfl
  have b_item_of := F_item_of.binds (ps := P_item_of) fun _ _ _ _ _ _ us hl => match us, hl with | [_], _ => rfl
  have b_read_start := F_read_start.binds (ps := P_read_start) fun _ _ _ _ _ _ us hl => match us, hl with | [_, _], _ => rfl
  have b_read_proc := F_read_proc.binds (ps := P_read_proc) fun _ _ _ _ _ _ us hl => match us, hl with | [_, _, _], _ => rfl
  have b_read_end := F_read_end.binds (ps := P_read_end) fun _ _ _ _ _ _ us hl => match us, hl with | [_, _], _ => rfl
  have b_read_block := F_read_block.binds (ps := P_read_block) fun _ _ _ _ _ _ us hl => match us, hl with | [_, _, _], _ => rfl
  have b_read_or := F_read_or.binds (ps := P_read_or) fun _ _ _ _ _ _ us hl => match us, hl with | [_, _], _ => rfl
  have b_read_leave := F_read_leave.binds (ps := P_read_leave) fun _ _ _ _ _ _ us hl => match us, hl with | [_, _], _ => rfl
  have b_read_do := F_read_do.binds (ps := P_read_do) fun _ _ _ _ _ _ us hl => match us, hl with | [_, _, _], _ => rfl
  have b_read_mode := F_read_mode.binds (ps := P_read_mode) fun _ _ _ _ _ _ us hl => match us, hl with | [_, _], _ => rfl
  have b_read_inside := F_read_inside.binds (ps := P_read_inside) fun _ _ _ _ _ _ us hl => match us, hl with | [_, _, _], _ => rfl
  have b_read_line := F_read_line.binds (ps := P_read_line) fun _ _ _ _ _ _ us hl => match us, hl with | [_, _, _], _ => rfl
  have b_read_text := F_read_text.binds (ps := P_read_text) fun _ _ _ _ _ _ us hl => match us, hl with | [_], _ => rfl
  have b__law_is_name := F__law_is_name.binds (ps := P__law_is_name) fun _ _ _ _ _ _ us hl => match us, hl with | [_], _ => rfl
  have b__law_is_price := F__law_is_price.binds (ps := P__law_is_price) fun _ _ _ _ _ _ us hl => match us, hl with | [_], _ => rfl
  have b__law_mode_right := F__law_mode_right.binds (ps := P__law_mode_right) fun _ _ _ _ _ _ us hl => match us, hl with | [_, _], _ => rfl
  have b__law_start_right := F__law_start_right.binds (ps := P__law_start_right) fun _ _ _ _ _ _ us hl => match us, hl with | [_, _], _ => rfl
  have b__law_do_right := F__law_do_right.binds (ps := P__law_do_right) fun _ _ _ _ _ _ us hl => match us, hl with | [_, _], _ => rfl
  have b__law_inside_right := F__law_inside_right.binds (ps := P__law_inside_right) fun _ _ _ _ _ _ us hl => match us, hl with | [_, _], _ => rfl
  have b__law_line_right := F__law_line_right.binds (ps := P__law_line_right) fun _ _ _ _ _ _ us hl => match us, hl with | [_, _], _ => rfl
  have b__law_due := F__law_due.binds (ps := P__law_due) fun _ _ _ _ _ _ us hl => match us, hl with | [_], _ => rfl
  have b__law_told := F__law_told.binds (ps := P__law_told) fun _ _ _ _ _ _ us hl => match us, hl with | [_], _ => rfl
  have b_Reading_init := F_Reading_init.binds (ps := P_Reading___init__) fun _ _ _ _ _ _ us hl => match us, hl with | [_], _ => rfl
  have b_Program_init := F_Program_init.binds (ps := P_Program___init__) fun _ _ _ _ _ _ us hl => match us, hl with | [_, _], _ => rfl
  have TP : PenTxt mg := ⟨z_len, z_int, z_list⟩
  have TW : WordTxt K mg (fun i => ([t_LETTERS, t_DIGITS, t_LONGEST_NAME, t_MOST_PRICE, t_MOST_DIGITS, t_MOST_CHARACTERS, t_MOST_LINES, t_MOST_MODES, t_MOST_VALUES, t_MOST_PROCEDURES, t_MOST_BLOCKS, t_MOST_ITEMS] : List Tok).getD i 0) kw := ⟨z_len, z_int, PySem.W.mg_of X G a_KEYWORDS, PySem.W.mg_of X G a_LETTERS, PySem.W.mg_of X G a_DIGITS, PySem.W.mg_of X G a_LONGEST_NAME, PySem.W.mg_of X G a_MOST_PRICE, PySem.W.mg_of X G a_MOST_DIGITS, fun H => kw_of kwb H⟩
  have TRd : RdTxt K CRd := ⟨cl_Reading, na_Reading⟩
  have TR : ReadTxt K mg (fun i => ([t_LETTERS, t_DIGITS, t_LONGEST_NAME, t_MOST_PRICE, t_MOST_DIGITS, t_MOST_CHARACTERS, t_MOST_LINES, t_MOST_MODES, t_MOST_VALUES, t_MOST_PROCEDURES, t_MOST_BLOCKS, t_MOST_ITEMS] : List Tok).getD i 0) CRd := ⟨z_len, z_zip, z_int, z_list, z_reversed, z_enumerate, PySem.W.mg_of X G a_MOST_CHARACTERS, PySem.W.mg_of X G a_MOST_LINES, PySem.W.mg_of X G a_MOST_MODES, PySem.W.mg_of X G a_MOST_VALUES, PySem.W.mg_of X G a_MOST_PROCEDURES, PySem.W.mg_of X G a_MOST_BLOCKS, PySem.W.mg_of X G a_MOST_ITEMS, TRd⟩
  have TT : TextTxt l.prog K mg (fun i => ([t_LETTERS, t_DIGITS, t_LONGEST_NAME, t_MOST_PRICE, t_MOST_DIGITS, t_MOST_CHARACTERS, t_MOST_LINES, t_MOST_MODES, t_MOST_VALUES, t_MOST_PROCEDURES, t_MOST_BLOCKS, t_MOST_ITEMS] : List Tok).getD i 0) CRd CB CT := { toReadTxt := TR, e_BadText := e_BadText, e_TooMany := e_TooMany }
  have Tpg : PrgTxt K CP := ⟨cl_Program, na_Program⟩
  have TNm : NamTxt mg := ⟨z_len, z_int, z_range⟩
  have TL : LwT mg := ⟨z_len, z_int, z_set, z_range⟩
  have TBo : BodTxt mg := ⟨z_range⟩
  have TLi : LinTxt mg := ⟨z_len, z_range, z_str⟩
  obtain ⟨_, _, _, _, _, _, _, _, _, elaw, _, _⟩ := F_law.ex
  refine ⟨fdlaw, fun s v => by rw [elaw]; exact .of_eq rfl, fun base _ _ => ?_⟩
  have c__law_pen : Cal l.prog w K mg base 1 "_law_pen" (sp_pen K) := ⟨_, _, _, fn_cx (ok_pen F__law_pen TP), PySem.W.mg_of X G a__law_pen, F__law_pen.kp, b__law_pen⟩
  have c__law_draw : Cal l.prog w K mg base 1 "_law_draw" sp_draw := ⟨_, _, _, fn_cx (ok_draw F__law_draw TP), PySem.W.mg_of X G a__law_draw, F__law_draw.kp, b__law_draw⟩
  have c__law_pick : Cal l.prog w K mg base 2 "_law_pick" sp_pickS := ⟨_, _, _, ok_pickS F__law_pick TP c__law_draw, PySem.W.mg_of X G a__law_pick, F__law_pick.kp, b__law_pick⟩
  have c__law_pickL : Cal l.prog w K mg base 2 "_law_pick" (sp_pickL K) := ⟨_, _, _, ok_pickL F__law_pick TP c__law_draw, PySem.W.mg_of X G a__law_pick, F__law_pick.kp, b__law_pick⟩
  have c__law_names : Cal l.prog w K mg base 3 "_law_names" sp_names := ⟨_, _, _, ok_names F__law_names TNm c__law_draw c__law_pick c__law_pickL, PySem.W.mg_of X G a__law_names, F__law_names.kp, b__law_names⟩
  have c__law_work : Cal l.prog w K mg base 3 "_law_work" sp_work := ⟨_, _, _, fn_cx (ok_work F__law_work c__law_draw c__law_pickL), PySem.W.mg_of X G a__law_work, F__law_work.kp, b__law_work⟩
  have cB : ∀ dp : Nat, dp ≤ 4 → Cal l.prog w K mg base 14 "_law_body" (sp_body dp) := fun dp hdp => (bodies_ok TBo F__law_piece F__law_body (PySem.W.mg_of X G a__law_piece) (PySem.W.mg_of X G a__law_body) b__law_piece b__law_body c__law_draw c__law_pickL c__law_work dp (by omega)).mono (by omega)
  have c__law_lines : Cal l.prog w K mg base 15 "_law_lines" sp_lines := ⟨_, _, _, fn_cx (ok_lines F__law_lines TLi c__law_draw c__law_pickL c__law_names c__law_work cB), PySem.W.mg_of X G a__law_lines, F__law_lines.kp, b__law_lines⟩
  have c__law_word : Cal l.prog w K mg base 3 "_law_word" sp_word := ⟨_, _, _, fn_cx (ok_word F__law_word TLi c__law_draw c__law_pickL), PySem.W.mg_of X G a__law_word, F__law_word.kp, b__law_word⟩
  have c__law_bent : Cal l.prog w K mg base 4 "_law_bent" sp_bent := ⟨_, _, _, fn_cx (ok_bent F__law_bent TLi c__law_draw c__law_word), PySem.W.mg_of X G a__law_bent, F__law_bent.kp, b__law_bent⟩
  have c_words_of : Cal l.prog w K mg base 1 "words_of" sp_words_of := ⟨_, _, _, fn_cx (ok_words_of F_words_of), PySem.W.mg_of X G a_words_of, F_words_of.kp, b_words_of⟩
  have c_is_made_of : Cal l.prog w K mg base 1 "is_made_of" sp_is_made_of := ⟨_, _, _, fn_cx (ok_is_made_of F_is_made_of), PySem.W.mg_of X G a_is_made_of, F_is_made_of.kp, b_is_made_of⟩
  have c_is_name : Cal l.prog w K mg base 2 "is_name" sp_is_name := ⟨_, _, _, fn_cx (ok_is_name F_is_name TW c_is_made_of), PySem.W.mg_of X G a_is_name, F_is_name.kp, b_is_name⟩
  have c_is_price : Cal l.prog w K mg base 2 "is_price" sp_is_price := ⟨_, _, _, fn_cx (ok_is_price F_is_price TW c_is_made_of), PySem.W.mg_of X G a_is_price, F_is_price.kp, b_is_price⟩
  have c_item_of : Cal l.prog w K mg base 3 "item_of" sp_item_of := ⟨_, _, _, fn_cx (ok_item_of F_item_of TW c_is_name), PySem.W.mg_of X G a_item_of, F_item_of.kp, b_item_of⟩
  have c_read_start : Cal l.prog w K mg base 1 "read_start" (sp_read_start K CRd) := ⟨_, _, _, fn_cx (ok_read_start F_read_start TR), PySem.W.mg_of X G a_read_start, F_read_start.kp, b_read_start⟩
  have c_read_proc : Cal l.prog w K mg base 3 "read_proc" (sp_read_proc K CRd) := ⟨_, _, _, fn_cx (ok_read_proc F_read_proc TR c_is_name), PySem.W.mg_of X G a_read_proc, F_read_proc.kp, b_read_proc⟩
  have c_read_end : Cal l.prog w K mg base 1 "read_end" (sp_read_end CRd) := ⟨_, _, _, fn_cx (ok_read_end F_read_end TR), PySem.W.mg_of X G a_read_end, F_read_end.kp, b_read_end⟩
  have c_read_block : Cal l.prog w K mg base 1 "read_block" (sp_read_block CRd) := ⟨_, _, _, fn_cx (ok_read_block F_read_block TR), PySem.W.mg_of X G a_read_block, F_read_block.kp, b_read_block⟩
  have c_read_or : Cal l.prog w K mg base 1 "read_or" (sp_read_or CRd) := ⟨_, _, _, fn_cx (ok_read_or F_read_or TR), PySem.W.mg_of X G a_read_or, F_read_or.kp, b_read_or⟩
  have c_read_leave : Cal l.prog w K mg base 1 "read_leave" (sp_read_leave CRd) := ⟨_, _, _, fn_cx (ok_read_leave F_read_leave TR), PySem.W.mg_of X G a_read_leave, F_read_leave.kp, b_read_leave⟩
  have c_read_do : Cal l.prog w K mg base 4 "read_do" (sp_read_do K CRd) := ⟨_, _, _, fn_cx (ok_read_do F_read_do TR c_is_name c_item_of), PySem.W.mg_of X G a_read_do, F_read_do.kp, b_read_do⟩
  have c_read_mode : Cal l.prog w K mg base 3 "read_mode" (sp_read_mode K CRd) := ⟨_, _, _, fn_cx (ok_read_mode F_read_mode TR c_is_name c_is_price), PySem.W.mg_of X G a_read_mode, F_read_mode.kp, b_read_mode⟩
  have c_read_inside : Cal l.prog w K mg base 5 "read_inside" (sp_read_inside K CRd) := ⟨_, _, _, fn_cx (ok_read_inside F_read_inside TR c_is_name c_read_do c_read_end c_read_or c_read_leave c_read_block), PySem.W.mg_of X G a_read_inside, F_read_inside.kp, b_read_inside⟩
  have c_read_line : Cal l.prog w K mg base 6 "read_line" (sp_read_line K CRd) := ⟨_, _, _, fn_cx (ok_read_line F_read_line TR c_read_mode c_read_start c_read_proc c_read_inside), PySem.W.mg_of X G a_read_line, F_read_line.kp, b_read_line⟩
  have c_Reading : CalM l.prog w K mg base 1 "Reading" CRd (sp_init CRd) := ⟨_, _, _, mk_Reading, fn_cx (ok_init F_Reading_init TRd), PySem.W.mg_of X G a_Reading, b_Reading_init⟩
  have c_read_text : Cal l.prog w K mg base 7 "read_text" (sp_read_text CRd CB CT) := ⟨_, _, _, ok_read_text F_read_text TT c_words_of c_read_line c_Reading, PySem.W.mg_of X G a_read_text, F_read_text.kp, b_read_text⟩
  have o_Program := ok_pinit (P := l.prog) (w := w) (mg := mg) (base := base) F_Program_init ⟨TRd, Tpg, z_tuple, z_zip⟩ c_read_text
  have c_Program : CalM l.prog w K mg base 8 "Program" CP (sp_pinit CP CB CT) := ⟨_, _, _, mk_Program, o_Program, PySem.W.mg_of X G a_Program, b_Program_init⟩
  have c__law_is_name : Cal l.prog w K mg base 1 "_law_is_name" sp_l_name := ⟨_, _, _, fn_cx (ok_l_name F__law_is_name TL), PySem.W.mg_of X G a__law_is_name, F__law_is_name.kp, b__law_is_name⟩
  have c__law_is_price : Cal l.prog w K mg base 1 "_law_is_price" sp_l_price := ⟨_, _, _, fn_cx (ok_l_price F__law_is_price TL), PySem.W.mg_of X G a__law_is_price, F__law_is_price.kp, b__law_is_price⟩
  have c__law_mode_right : Cal l.prog w K mg base 2 "_law_mode_right" (sp_l_mode K) := ⟨_, _, _, fn_cx (ok_l_mode F__law_mode_right TL c__law_is_name c__law_is_price), PySem.W.mg_of X G a__law_mode_right, F__law_mode_right.kp, b__law_mode_right⟩
  have c__law_start_right : Cal l.prog w K mg base 1 "_law_start_right" (sp_l_start K) := ⟨_, _, _, fn_cx (ok_l_start F__law_start_right TL), PySem.W.mg_of X G a__law_start_right, F__law_start_right.kp, b__law_start_right⟩
  have c__law_do_right : Cal l.prog w K mg base 2 "_law_do_right" (sp_l_do K) := ⟨_, _, _, fn_cx (ok_l_do F__law_do_right TL c__law_is_name), PySem.W.mg_of X G a__law_do_right, F__law_do_right.kp, b__law_do_right⟩
  have c__law_inside_right : Cal l.prog w K mg base 3 "_law_inside_right" (sp_l_ins K) := ⟨_, _, _, fn_cx (ok_l_ins F__law_inside_right TL c__law_is_name c__law_do_right), PySem.W.mg_of X G a__law_inside_right, F__law_inside_right.kp, b__law_inside_right⟩
  have c__law_line_right : Cal l.prog w K mg base 4 "_law_line_right" (sp_l_line K) := ⟨_, _, _, fn_cx (ok_l_line F__law_line_right TL c__law_is_name c__law_mode_right c__law_start_right c__law_inside_right), PySem.W.mg_of X G a__law_line_right, F__law_line_right.kp, b__law_line_right⟩
  have c__law_due : Cal l.prog w K mg base 5 "_law_due" sp_due := ⟨_, _, _, fn_cx (ok_due F__law_due TL c__law_line_right), PySem.W.mg_of X G a__law_due, F__law_due.kp, b__law_due⟩
  have TTo : ToldT l.prog w K mg base CP CB CT CM := { pg := Tpg, cB := ⟨(errB_ok xB).2.2.2.2.2.2.2.2.1, (errB_ok xB).2.2.2.2.2.2.2.2.2.1, kB, (errB_ok xB).2.2.2.2.2.2.2.2.2.2 _ (by decide), xBB⟩, cT := ⟨(errB_ok xT).2.2.2.2.2.2.2.2.1, (errB_ok xT).2.2.2.2.2.2.2.2.2.1, kT, (errB_ok xT).2.2.2.2.2.2.2.2.2.2 _ (by decide), xTT⟩, exT := xTB, g_BadText := PySem.W.mg_of X G a_BadText, g_TooMany := PySem.W.mg_of X G a_TooMany, g_ModeError := PySem.W.mg_of X G a_ModeError, b_isinstance := z_isinstance }
  have c__law_told : Cal l.prog w K mg base 10 "_law_told" sp_told := ⟨_, _, _, fn_cx (ok_told F__law_told TTo c_Program), PySem.W.mg_of X G a__law_told, F__law_told.kp, b__law_told⟩
  exact ok_law F_law { b_len := z_len, b_list := z_list, b_range := z_range, b_min := z_min, c__law_pen := c__law_pen, c__law_draw := c__law_draw, c__law_lines := c__law_lines, c__law_bent := c__law_bent, c__law_told := c__law_told, c__law_due := c__law_due }
theorem walk {l : PySem.W.OpenLaw} {q : Program} {loose : List Str} {XP : (Str → Option Value) → Heap → Prop} {YP : World → Heap → Prop} {d : DefRec} {K : Params → PySem.W.Frag} (hn : l.most = some 63) (hdf : d.params.defaults = [])
    (hY : ∀ (w : World) (h : Heap), YP w h → (K w.params).In h)
    (F : ∀ (w : World) (mg : Str → Option Value) (fa : Addr) (h : Heap), (K w.params).In h → h.Ns mainGlobals mg → mg d.name = some (.ref fa) →
      ∃ fd : FuncData, (∀ (s : Shared) (u : Value), BindsTo s fd ⟨[u], []⟩ [("_law_script", u)]) ∧ ∀ base : Heap, (K w.params).In base → base.Ns mainGlobals mg → FnOk l.prog w (K w.params) mg base CX0 16 fa fd P_law (sp_law (K w.params))) :
    PySem.W.WalkO q loose XP YP l.row.toRowW d [] (fun f vs => PySem.call f vs) :=
  L2.walk_of (n := 63) (k := 16) (x := "_law_script") (CX := fun _ => CX0) (sp := fun w => sp_law (K w.params)) hn (by decide) hdf ⟨rfl, by decide, by decide⟩ hY F (fun _ _ a ns hl _ hS => ⟨a, ns, rfl, hS, hl, fun _ => rfl⟩) fun _ _ _ _ _ z => z
end MP
end
section
open PySem L2 MPX MP
local macro_rules | `(tactic| walk_at "rd1") => `(tactic| first
  | with_reducible refine x_seq ?_
  | with_reducible refine x_next ?_
  | with_reducible refine x_ret ?_
  | with_reducible refine x_retN ?_
  | with_reducible refine x_ifs ?_
  | with_reducible refine x_asg ?_
  | with_reducible refine x_drop ?_
  | with_reducible refine x_name ?_
  | ((with_reducible refine' x_var ?vv ?_); (case vv => exact rfl))
  | with_reducible refine x_c ?_
  | with_reducible refine x_op ?_
  | with_reducible refine x_un ?_
  | with_reducible refine x_test ?_
  | with_reducible refine x_tB ?_
  | with_reducible refine x_and ?_
  | with_reducible refine x_or ?_
  | with_reducible refine x_not ?_
  | with_reducible refine x_andV ?_
  | with_reducible refine x_orV ?_
  | with_reducible refine x_notV ?_
  | with_reducible refine x_if ?_
  | with_reducible refine x_nil ?_
  | with_reducible refine x_cons ?_
  | with_reducible refine x_tup ?_
  | with_reducible refine x_lst ?_
  | with_reducible refine x_cb ?_
  | with_reducible refine x_call ?_
  | with_reducible refine x_callS ?_
  | with_reducible refine x_callP ?_
  | with_reducible refine x_mk0 ?_
  | with_reducible refine x_mk1 ?_
  | with_reducible refine x_mk2 ?_
  | with_reducible refine x_make ?_
  | with_reducible refine x_sfld ?_
  | with_reducible refine x_m0 ?_
  | with_reducible refine x_m1 ?_
  | with_reducible refine x_bm0 ?_
  | with_reducible refine x_bm ?_
  | with_reducible refine x_par ?_
  | with_reducible refine x_ilist ?_
  | with_reducible refine x_itup ?_
  | with_reducible refine x_istr ?_
  | ((with_reducible show tLc _ _ _ _ _ _ _ _); unfold tLc)
  | ((with_reducible show tFor _ _ _ _ _ _); unfold tFor)
  | ((with_reducible refine' x_eq ?vv ?_); (case vv => exact rfl))
  | ((with_reducible refine' x_ne ?vv ?_); (case vv => exact rfl))
  | with_reducible refine x_rI0 ?_
  | with_reducible refine x_dget ?_
  | with_reducible refine x_dput ?_
  | with_reducible refine x_dnew ?_
  | with_reducible refine x_dget1 ?_
  | with_reducible refine x_dget2 ?_
  | with_reducible refine x_sl ?_
  | with_reducible refine x_nopart ?_
  | with_reducible refine x_part ?_
  | ((with_reducible refine' x_slL ?vv ?_); (case vv => (with_reducible assumption)))
  | with_reducible refine x_disp ?_
  | with_reducible refine x_pcons ?_
  | with_reducible refine x_pnil ?_
  | ((with_reducible refine' x_mod ?vv ?_); (case vv => omega); intro r er hr0 hr1; (try clear er))
  | ((with_reducible refine' x_rI ?vv ?_); (case vv => walk_at "sc"))
  | (with_reducible refine Or.inl (Exists.intro _ (And.intro rfl ?_)))
  | with_reducible refine x_T ?_
  | with_reducible refine x_F ?_
  | ((with_reducible show Exists (α := V) _); (with_reducible apply Exists.intro))
  | ((with_reducible show Exists (α := Bool) _); (with_reducible apply Exists.intro))
  | ((with_reducible show Exists (α := Nat) _); (with_reducible apply Exists.intro))
  | ((with_reducible show Exists (α := Int) _); (with_reducible apply Exists.intro))
  | ((with_reducible show Exists (α := List V) _); (with_reducible apply Exists.intro))
  | ((with_reducible show Exists (α := PySem.Str) _); (with_reducible apply Exists.intro))
  | ((with_reducible show Exists (α := Option V) _); (with_reducible apply Exists.intro))
  | ((with_reducible show Exists (α := Option Int) _); (with_reducible apply Exists.intro))
  | ((with_reducible show Exists (α := List (Key × V)) _); (with_reducible apply Exists.intro))
  | refine And.intro rfl ?_
  | ((with_reducible refine And.intro ?vv ?_); (case vv => (first | (with_reducible assumption) | (show _ ≤ sizeLine; decide) | exact len_ok rfl)))
  | (refine And.intro (Exists.intro _ rfl) ?_))
local macro_rules | `(tactic| walk_at "sc") => `(tactic| first
  | (with_reducible assumption)
  | exact divW (by omega) (by omega)
  | exact mulW (by omega) (by omega)
  | exact Or.inl ⟨by omega, by omega⟩
  | exact Or.inr ⟨by omega, by omega⟩
  | (show (_ : Int) ≠ 0; omega)
  | exact ⟨by decide, by decide, by decide⟩
  | decide)
local macro_rules | `(tactic| walk_at "rd") => `(tactic| repeat walk_at "rd1")
open PySem PySem.W PyProof.Rows
local macro_rules | `(tactic| walk_at "sup") => `(tactic| (refine' MPX.supC_mk ?eB ?xL ?bV ?iC ?tI ?top ?lF ?cF ?lC ?v2 ?mf ?lc ?a1 ?a2 ?bd ?n1 ?n2 ?n3 ?n4 ?co ?ge ?ki; (case iC => k_is); (case xL => k_is); (case bV => kernel_rfl); (case tI => k_is); (case lF => k_is); (case cF => k_is); (case lC => k_is); (case v2 => rfl); (case lc => k_is); (case a1 => rfl); (case a2 => rfl); (case mf => kernel_rfl); (case top => kernel_rfl); (case n1 => rfl); (case n2 => rfl); (case n3 => decide +kernel); (case n4 => decide +kernel); (case co => rfl); (case ge => rfl); (case ki => rfl); (case eB => kernel_rfl)))
local macro_rules | `(tactic| walk_at "fun") => `(tactic| (refine' ⟨_, L2.fun_mk ?l ?c ?k⟩; (case l => k_is); (case c => k_is); (case k => k_is)))
theorem PySem.Challenge.cw_modeplaces_k02_wrong_words_anywhere_holds : PySem.Challenge.rw_modeplaces_k02_wrong_words_anywhere.Holds := by
  w_on; o_law; k_head; (case hw => w_witness2)
  k_fill
  refine MP.walk (l := PySem.Challenge.rw_modeplaces_k02_wrong_words_anywhere) rfl rfl (fun w h Y => PySem.W.kIn_of Y) ?F
  case F =>
    intro w mg fa h KX G hmg
    refine' MP.all_mk KX G hmg ?a__law_pen ?F__law_pen ?a__law_draw ?F__law_draw ?a__law_pick ?F__law_pick ?a__law_names ?F__law_names ?a__law_work ?F__law_work ?a__law_piece ?F__law_piece ?a__law_body ?F__law_body ?a__law_lines ?F__law_lines ?a__law_word ?F__law_word ?a__law_bent ?F__law_bent ?a_words_of ?F_words_of ?a_is_made_of ?F_is_made_of ?a_is_name ?F_is_name ?a_is_price ?F_is_price ?a_item_of ?F_item_of ?a_read_start ?F_read_start ?a_read_proc ?F_read_proc ?a_read_end ?F_read_end ?a_read_block ?F_read_block ?a_read_or ?F_read_or ?a_read_leave ?F_read_leave ?a_read_do ?F_read_do ?a_read_mode ?F_read_mode ?a_read_inside ?F_read_inside ?a_read_line ?F_read_line ?a_read_text ?F_read_text ?a__law_is_name ?F__law_is_name ?a__law_is_price ?F__law_is_price ?a__law_mode_right ?F__law_mode_right ?a__law_start_right ?F__law_start_right ?a__law_do_right ?F__law_do_right ?a__law_inside_right ?F__law_inside_right ?a__law_line_right ?F__law_line_right ?a__law_due ?F__law_due ?a__law_told ?F__law_told ?a_law ?F_law ?a_Reading ?i_Reading ?F_Reading_init ?c_Reading ?s_Reading ?a_Program ?i_Program ?F_Program_init ?c_Program ?s_Program ?e_BadText ?e_TooMany ?y_len ?y_int ?y_list ?y_tuple ?y_zip ?y_reversed ?y_enumerate ?y_range ?y_str ?y_min ?y_isinstance ?y_set ?a_LETTERS ?a_DIGITS ?a_LONGEST_NAME ?a_MOST_PRICE ?a_MOST_DIGITS ?a_MOST_CHARACTERS ?a_MOST_LINES ?a_MOST_MODES ?a_MOST_VALUES ?a_MOST_PROCEDURES ?a_MOST_BLOCKS ?a_MOST_ITEMS ?a_KEYWORDS ?kwb ?a_BadText ?a_TooMany ?a_ModeError ?xB ?xT ?kB ?kT ?xBB ?xTT ?xTB
    (case a__law_pen => k_is)
    (case F__law_pen => walk_at "fun")
    (case a__law_draw => k_is)
    (case F__law_draw => walk_at "fun")
    (case a__law_pick => k_is)
    (case F__law_pick => walk_at "fun")
    (case a__law_names => k_is)
    (case F__law_names => walk_at "fun")
    (case a__law_work => k_is)
    (case F__law_work => walk_at "fun")
    (case a__law_piece => k_is)
    (case F__law_piece => walk_at "fun")
    (case a__law_body => k_is)
    (case F__law_body => walk_at "fun")
    (case a__law_lines => k_is)
    (case F__law_lines => walk_at "fun")
    (case a__law_word => k_is)
    (case F__law_word => walk_at "fun")
    (case a__law_bent => k_is)
    (case F__law_bent => walk_at "fun")
    (case a_words_of => k_is)
    (case F_words_of => walk_at "fun")
    (case a_is_made_of => k_is)
    (case F_is_made_of => walk_at "fun")
    (case a_is_name => k_is)
    (case F_is_name => walk_at "fun")
    (case a_is_price => k_is)
    (case F_is_price => walk_at "fun")
    (case a_item_of => k_is)
    (case F_item_of => walk_at "fun")
    (case a_read_start => k_is)
    (case F_read_start => walk_at "fun")
    (case a_read_proc => k_is)
    (case F_read_proc => walk_at "fun")
    (case a_read_end => k_is)
    (case F_read_end => walk_at "fun")
    (case a_read_block => k_is)
    (case F_read_block => walk_at "fun")
    (case a_read_or => k_is)
    (case F_read_or => walk_at "fun")
    (case a_read_leave => k_is)
    (case F_read_leave => walk_at "fun")
    (case a_read_do => k_is)
    (case F_read_do => walk_at "fun")
    (case a_read_mode => k_is)
    (case F_read_mode => walk_at "fun")
    (case a_read_inside => k_is)
    (case F_read_inside => walk_at "fun")
    (case a_read_line => k_is)
    (case F_read_line => walk_at "fun")
    (case a_read_text => k_is)
    (case F_read_text => walk_at "fun")
    (case a__law_is_name => k_is)
    (case F__law_is_name => walk_at "fun")
    (case a__law_is_price => k_is)
    (case F__law_is_price => walk_at "fun")
    (case a__law_mode_right => k_is)
    (case F__law_mode_right => walk_at "fun")
    (case a__law_start_right => k_is)
    (case F__law_start_right => walk_at "fun")
    (case a__law_do_right => k_is)
    (case F__law_do_right => walk_at "fun")
    (case a__law_inside_right => k_is)
    (case F__law_inside_right => walk_at "fun")
    (case a__law_line_right => k_is)
    (case F__law_line_right => walk_at "fun")
    (case a__law_due => k_is)
    (case F__law_due => walk_at "fun")
    (case a__law_told => k_is)
    (case F__law_told => walk_at "fun")
    (case a_law => k_is)
    (case F_law => walk_at "fun")
    (case a_Reading => k_is)
    (case i_Reading => k_is)
    (case F_Reading_init => walk_at "fun")
    (case c_Reading => kernel_rfl)
    (case s_Reading => k_is)
    (case a_Program => k_is)
    (case i_Program => k_is)
    (case F_Program_init => walk_at "fun")
    (case c_Program => kernel_rfl)
    (case s_Program => k_is)
    (case e_BadText => refine' MP.exc1_mk KX G ?aC ?su ?S ?ev ?ne ?nd ?n1; (case aC => k_is); (case su => k_is); (case S => walk_at "sup"; (case bd => exact fun us hl => match us, hl with | [_, _], _ => rfl)); (case ev => exact fun env => ⟨_, by rfl⟩); (case ne => decide +kernel); (case nd => decide +kernel); (case n1 => k_is))
    (case e_TooMany => refine' MP.exc1_mk KX G ?aC ?su ?S ?ev ?ne ?nd ?n1; (case aC => k_is); (case su => k_is); (case S => walk_at "sup"; (case bd => exact fun us hl => match us, hl with | [_, _], _ => rfl)); (case ev => exact fun env => ⟨_, by rfl⟩); (case ne => decide +kernel); (case nd => decide +kernel); (case n1 => k_is))
    (case y_len => k_is)
    (case y_int => k_is)
    (case y_list => k_is)
    (case y_tuple => k_is)
    (case y_zip => k_is)
    (case y_reversed => k_is)
    (case y_enumerate => k_is)
    (case y_range => k_is)
    (case y_str => k_is)
    (case y_min => k_is)
    (case y_isinstance => k_is)
    (case y_set => k_is)
    (case a_LETTERS => exact MP.str1_of (by kernel_rfl))
    (case a_DIGITS => exact MP.str1_of (by kernel_rfl))
    (case a_LONGEST_NAME => exact MP.int1_of (by kernel_rfl))
    (case a_MOST_PRICE => exact MP.int1_of (by kernel_rfl))
    (case a_MOST_DIGITS => exact MP.int1_of (by kernel_rfl))
    (case a_MOST_CHARACTERS => exact MP.int1_of (by kernel_rfl))
    (case a_MOST_LINES => exact MP.int1_of (by kernel_rfl))
    (case a_MOST_MODES => exact MP.int1_of (by kernel_rfl))
    (case a_MOST_VALUES => exact MP.int1_of (by kernel_rfl))
    (case a_MOST_PROCEDURES => exact MP.int1_of (by kernel_rfl))
    (case a_MOST_BLOCKS => exact MP.int1_of (by kernel_rfl))
    (case a_MOST_ITEMS => exact MP.int1_of (by kernel_rfl))
    (case a_KEYWORDS => k_is)
    (case kwb => kernel_rfl)
    (case a_BadText => k_is)
    (case a_TooMany => k_is)
    (case a_ModeError => k_is)
    (case xB => kernel_rfl)
    (case xT => kernel_rfl)
    (case kB => kernel_rfl)
    (case kT => kernel_rfl)
    (case xBB => kernel_rfl)
    (case xTT => kernel_rfl)
    (case xTB => kernel_rfl)
end
