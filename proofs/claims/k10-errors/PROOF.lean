import PyProof.Rows.All
import Wide.All
import OpenK.AllK
import Wide.FinOn
import PyProof.EqAt
import PyProof.EqKinds
import PyProof.TupleCall
import KE.KExcSuper
import HandS.ForExc
import HandS.ExcInit
import HandS.ExcSuper
import HandS.HotCalls
import HandS.ExcIs
import HandS.ExcField
import KE.KExcIs
import HandS.ForMost
import HandS.Wide
import HandS.TupAny
import HandS.Star
import HandS.DictComp
import HandS.Flow
import HandS.IsInst
import HandS.MakeKw
import HandS.OwnEq
import PySem.Challenge.RW_modeplaces_k10_errors
import HandS.ExcBuiltin
import HandS.DeepEq
set_option Elab.async false
set_option linter.all false
set_option maxRecDepth 100000
set_option maxHeartbeats 4000000
namespace MPX
open PySem PySem.W PySem.Calls PyProof.Rows PySem.Spec
abbrev VEs : List Value := [.type "ValueError", .type "Exception", .type "BaseException", .type "object"]
/-- what the written part says of an own exception class at C whose __init__ (at fI) begins with super().__init__(a text) -/
structure SupC (prog : Program) (K : Frag) (C fI : Addr) (ps : List Str) (body : List Stmt) : Prop where
  cls : ∃ nm q N bs bm sn sub ab col dd k0 k1 k2 k3 k5, K.lookup C = some (excClassObj nm q C N bs bm true sn sub ab col dd k0 k1 k2 k3 k5 "ValueError.__new__") ∧ HandSPX.refsVE bm = true
  sa : findIn K (.ref C) "__setattr__" = some (some (.builtin "object.__setattr__"))
  iC : findIn K (.ref C) "__init__" = some (some (.ref fI))
  tI : typeIn K (.ref fI) = some (.type "function")
  kC : keepIn K (.ref C) = true
  exC : subIn K (.ref C) (.type "BaseException") = some true
  veC : subIn K (.ref C) (.type "ValueError") = some true
  tyC : typeIn K (.ref C) = some (.type "type")
  sup : ks_superIn K C C "__init__" = some (some (.builtin "ValueError.__init__"))
  slf : mroIn K C (.ref C) = some true
  opq : nsIn K cStatics "thirdparty.any" = some none
  top : (prog.main.scope.names.lookup ("super" : Str)).isSome = false
  fn : ∃ (qual : Str) (params : Arguments) (scope : Scope) (oc : Value) (od : Option Addr) (dV kV doc pm ct : Value) (an : Option Addr) (osl : Array (Option Value)) (cda cc : Addr) (ccl cl : Value) (cdd cld : Option Addr) (ccs csl : Array (Option Value)) (vs : Array Value) (file : Str) (tf : Tok) (ar : Arg),
    K.lookup fI = some ⟨oc, od, .func (ksFn "__init__" qual params body scope dV kV doc pm an (.ref cda) ct cc), osl⟩ ∧ codeIn K (.ref cda) qual = true ∧
    K.lookup cda = some ⟨ccl, cdd, .fields vs, ccs⟩ ∧ vs[2]? = some (.str file tf) ∧ ((prog.main.file : Str) == file) = true ∧ K.lookup cc = some ⟨cl, cld, .cell (some (.ref C)), csl⟩ ∧
    (params.posonlyargs ++ params.args).head? = some ar ∧ ar.arg = "self" ∧ (∀ us : List Value, us.length = ps.length → bindArgs (ksFn "__init__" qual params body scope dV kV doc pm an (.ref cda) ct cc) ⟨us, []⟩ = pure (ps.zip us)) ∧
    scope.names.lookup ("super" : Str) = some .globalImplicit ∧ scope.names.lookup ("__class__" : Str) = some .free ∧ (∀ y ∈ ps, scope.names.lookup y = some .local) ∧ (∀ x ∈ scope.names, x.2 ≠ .cell) ∧ scope.isCoroutine = false ∧ scope.isGenerator = false ∧ scope.kind = .function
/-- what the module's own names are, over some heap -/
structure ModIn (h : Heap) (mg : Str → Option Value) : Prop where
  glob : h.Ns mainGlobals mg
  blt : ∃ mb, h.Ns builtinsNs mb ∧ ∀ x : Str, x ≠ "__name__" → mb x = bootBuiltins x
  nolimit : h.NoLimit
section
variable {prog : Program} {w : World} {A : Around} {E : Value → Shared → Prop} {h : Heap} {g : Array GenState} {d : Drawn} {t : Nat} {os : OsState}
variable {nm q : Str} {C N : Addr} {bs bm : List Value} {sn : List Str} {sub : List Value} {ab : Bool} {col : Option Bool} {dd : Option Addr} {k0 k1 k2 k3 k5 : Option Value}
theorem sup_call {u e t0 : Addr} {rest : List Value} {Q : Value → Shared → Prop}
    (hC : h.get? C = some (excClassObj nm q C N bs bm true sn sub ab col dd k0 k1 k2 k3 k5 "ValueError.__new__")) (he : h.get? e = some (HandSPX.excO C t0)) (hu : h.get? u = some (kxs_mw "ValueError.__init__" e)) (hrest : rest.length ≤ sizeLine)
    (hq : ∀ h' t1, (∀ b o, b ≠ e → h.get? b = some o → h'.get? b = some o) → h'.get? e = some (HandSPX.excO C t1) → Q .none ⟨h', g, d, t, os⟩) :
    wpAny (model prog w) A (call (.ref u) rest) Q E ⟨h, g, d, t, os⟩ := by
  refine wpAny_call (codeAny_of_tree ?_)
  show wpAny _ A.in1 (callAny (.ref u) ⟨rest, []⟩) _ _ _
  simp only [callAny]
  refine wpAny_bind (wpAny_load hu ?_)
  simp only [kxs_mw, show (Value.type "method-wrapper" == Value.type "method" || Value.type "method-wrapper" == Value.type "builtin_function_or_method" || Value.type "method-wrapper" == Value.type "method-wrapper") = true by decide, if_true]
  refine KFB.if_so (by decide) ?_
  refine wpAny_bind (check_bound_init F.excBase_ValueError.toExcCallFacts hC he rfl ?_)
  refine wpAny_bind (wpAny_pure (wpAny_pure ?_))
  refine ⟨plainId_quiet F.excBase_ValueError.init.plain _, codeAny_builtin F.excBase_ValueError.initEntry ?_⟩
  exact exc_init_tree (cls := .ref C) (t0 := t0) (dv := none) (c2 := .none) (c3 := .none) (b4 := .bool false) he hrest fun h' k e' _ => hq h' _ k e'
end
/-- how super().__init__(m) is evaluated (by rfl where it stands) -/
def SupEv (m : Str) (j : Nat) (p0 p1 p2 p3 p4 : Pos) : Prop := ∀ env, ∃ pl, eval (.Call (.Attribute (.Call (.Name "super" p0) [] [] p1) "__init__" p2) [.Constant (.str m) j p3] [] p4) env = (do
  let ov ← attributeBase (.Call (.Name "super" p0) [] [] p1) "__init__" env (eval (.Call (.Name "super" p0) [] [] p1) env)
  standAt p2.atName
  let (f, first) ← holding [ov] (getMethod ov "__init__" pl)
  callWith p4 f first (backTo p4 (starEach [.Constant (.str m) j p3] env)) [])
/-- the first row: super().__init__('..') -/
def supRow (m : Str) (j : Nat) (p0 p1 p2 p3 p4 p5 : Pos) : Stmt := .Expr (.Call (.Attribute (.Call (.Name "super" p0) [] [] p1) "__init__" p2) [.Constant (.str m) j p3] [] p4) p5
section
variable {prog : Program} {w : World} {A : Around} {R : Result → Shared → Prop} {K : Frag} {mg : Str → Option Value} {C fI : Addr} {ps : List Str} {rest : List Stmt} {m : Str} {j : Nat} {p0 p1 p2 p3 p4 p5 : Pos}
/-- __init__ of a fresh exception up to behind its first row -/
theorem sup_head {s : Shared} {x t0 : Addr} {us : List Value} (T : SupC prog K C fI ps (supRow m j p0 p1 p2 p3 p4 p5 :: rest)) (X : K.In s.heap) (G : ModIn s.heap mg) (hsup : mg "super" = none)
    (hev : SupEv m j p0 p1 p2 p3 p4)
    (hx : s.heap.get? x = some (HandSPX.excO C t0)) (hnx : K.lookup x = none) (hroom : A.depth < recursionLimit) (hlen : (Value.ref x :: us).length = ps.length) (hps : ps.head? = some ("self" : Str)) (hnd : ps.Nodup)
    (hq : ∀ (env : Env) h1 t1 tk, (∀ b o, b ≠ x → s.heap.get? b = some o → h1.get? b = some o) → h1.get? x = some (HandSPX.excO C t1) → K.In h1 → h1.Ns env.locals (fun y => (ps.zip (Value.ref x :: us)).reverse.lookup y) → (env.frame = some env.locals) → x < env.locals →
      env.scope.kind = .function → (∀ y ∈ ps, env.kindOf y = some .local) → s.heap.objs.size ≤ env.locals →
      wpAny (model prog w) (A.deeper env) (execs rest env) (fun f s' => R (.ok (.ret (match f with | .ret v => v | _ => .none))) s') (fun e s' => wpAny (model prog w) (A.deeper env) (leaving env e) (fun _ s'' => R (.error e) s'') (fun e' s'' => R (.error e') s'') s') { s with heap := h1, toks := tk }) :
    codeAny (model prog w) A (.call (.ref fI) ⟨.ref x :: us, []⟩) R s := by
  obtain ⟨nm, q, N, bs, bm, sn, sub, ab, col, dd, k0, k1, k2, k3, k5, hC, hbm⟩ := T.cls
  obtain ⟨qual, params, scope, oc, od, dV, kV, doc, pm, ct, an, osl, cda, cc, ccl, cl, cdd, cld, ccs, csl, vs, file, tf, ar, ho, hcd, hcode, hvs, hfile, hcell, hp, har, hbind, hks, hkc, hka, hnc, hco, hgen, hk⟩ := T.fn
  have hcl : clsIn K C = some { name := nm, bases := bs, mro := .ref C :: bm, ns := N, qualname := q, hasDict := true, slotNames := sn, subclasses := sub, abstract := ab, collection := col, hasDel := false } := by unfold clsIn; rw [hC] <;> rfl
  have hself : ("self" : Str) ∈ ps := List.mem_of_mem_head? (by rw [hps]; exact rfl)
  refine ks_codeAny_call_defAt (fd := ksFn "__init__" qual params (supRow m j p0 p1 p2 p3 p4 p5 :: rest) scope dV kV doc pm an (.ref cda) ct cc) (body := supRow m j p0 p1 p2 p3 p4 p5 :: rest) (binds := ps.zip (.ref x :: us)) hroom (X _ _ ho) rfl G.nolimit (codeRec_of X hcd) rfl (BindsTo.of_eq (hbind _ hlen)) hnc
    (fun y hy => hka y.1 (List.of_mem_zip hy).1) (fun h₁ hns hk₁ => ?_) hco hgen hk
  have X₁ : K.In h₁ := X.keeps hk₁
  have hx₁ := hk₁ _ _ hx
  have I₁ : InstAt h₁ x (HandSPX.excO C t0) C none := ⟨hx₁, rfl, rfl, trivial⟩
  have hxC : x ≠ C := ks_ne X₁ I₁ hcl
  obtain ⟨mb, hb1, hb2⟩ := G.blt
  have hvself : ((ps.zip (Value.ref x :: us)).reverse.lookup ("self" : Str)) = some (.ref x) := by
    cases ps with
    | nil => cases hps
    | cons a r =>
      cases hps
      have hnot : ∀ l : List (Str × Value), ("self" : Str) ∉ l.map (·.1) → (l ++ [(("self" : Str), Value.ref x)]).lookup ("self" : Str) = some (.ref x) := by
        intro l
        induction l with
        | nil => intro _; simp [List.lookup]
        | cons p l ih =>
          intro hn
          have h1 : ("self" : Str) ≠ p.1 := fun z => hn (by rw [z]; exact List.mem_cons_self ..)
          have h2 : (("self" : Str) == p.1) = false := by simpa using h1
          have := ih (fun z => hn (List.mem_cons_of_mem _ z))
          rw [List.cons_append]
          obtain ⟨pa, pb⟩ := p
          simp only [List.lookup]
          rw [h2]
          exact this
      rw [List.zip_cons_cons, List.reverse_cons]
      refine hnot _ fun z => ?_
      rw [List.map_reverse, List.mem_reverse] at z
      obtain ⟨p, hp1, hp2⟩ := List.mem_map.mp z
      have := (List.of_mem_zip hp1).1
      rw [hp2] at this
      exact (List.nodup_cons.mp hnd).1 this
  obtain ⟨pl, hev⟩ := hev (ksEnv qual scope s.heap.objs.size fI (.ref cda) cc)
  have hint : interactive (ksEnv qual scope s.heap.objs.size fI (.ref cda) cc) = false := by
    show (scope.kind == .module && _) = false
    rw [hk]
    rfl
  refine ks_wpAt_execs_cons (ks_wpAt_Expr_any (hi := hint) (ks_wpAt_MethodCall (pl := pl) ?_ hev))
  refine ks_wpAt_super_base (env := ksEnv qual scope s.heap.objs.size fI (.ref cda) cc) hks hkc rfl rfl (X₁ _ _ ho) rfl hp rfl (X₁ _ _ hcode) (oc := ⟨ccl, cdd, .fields vs, ccs⟩) rfl hvs hfile T.top ?_
  refine ks_loadName_global hk hks (loadGlobal_builtin (env := ksEnv qual scope s.heap.objs.size fI (.ref cda) cc) (G.glob.keeps hk₁) hsup (hb1.keeps hk₁) ((hb2 _ (by decide +kernel)).trans (show bootBuiltins "super" = some (.type "super") by decide +kernel)) ⟨rfl, ?_⟩)
  refine wpAny_loadName_free hk hkc rfl ⟨_, X₁ _ _ hcell, rfl⟩ ?_
  rw [har]
  refine wpAny_loadName_local hk (hka _ hself) hns hvself ?_
  refine ks_wpAny_isType_cls (X₁ _ _ hC) rfl ⟨rfl, ?_⟩
  refine ks_wpAny_call_super (X₁ _ _ hC) rfl hx₁ rfl (fun c e => by cases e) (looks_mroIn X₁ T.slf) (fun h₂ hso k₂ => ?_)
  have X₂ : K.In h₂ := X₁.keeps k₂
  have hx₂ := k₂ _ _ hx₁
  have I₂ : InstAt h₂ x (HandSPX.excO C t0) C none := ⟨hx₂, rfl, rfl, trivial⟩
  have hm := T.sup
  unfold ks_superIn at hm
  rw [hcl] at hm
  refine kxs_getMethod kxs_ValueError hso (looks_opaque X₂ T.opq) (l₀ := .ref C :: bm) (fun A Q E s k q => wpAny_bind ((looks_clsIn X₂ hcl) A _ E s k (wpAny_pure q))) rfl X₂ hm (I₂.type.andThen (looks_subIn X₂ T.veC)) hxC rfl ?_
  refine kxs_callWith (i := "ValueError.__init__") (x := x) rfl (evalArgs_plain ?_)
  refine Calls.spliced_cons ?_
  show wpAny _ _ (eval (.Constant (.str m) j p3) _) _ _ _
  refine Calls.Constant_str (Calls.spliced_nil ?_)
  have hnew : ∀ b o, h₂.get? b = some o → (h₂.push (kxs_mw "ValueError.__init__" x)).get? b = some o := fun b o e => Heap.get?_push_of_some _ e
  refine ⟨Heap.get?_push_at rfl rfl, ?_⟩
  refine sup_call (t0 := t0) (hnew _ _ (X₂ _ _ hC)) (hnew _ _ hx₂) (Heap.get?_push_at rfl rfl) (by show 1 ≤ sizeLine; decide) fun h₃ t1 k₃ hx₃ => ?_
  have k03 : ∀ b o, b ≠ x → s.heap.get? b = some o → h₃.get? b = some o := fun b o hb e => k₃ b o hb (hnew _ _ (k₂ _ _ (hk₁ _ _ e)))
  have X₃ : K.In h₃ := fun b o e => k₃ b o (fun z => by rw [z, hnx] at e; cases e) (hnew _ _ (X₂ _ _ e))
  have hxL : x < s.heap.objs.size := Heap.lt_size hx
  refine ks_wpAt_mono (wpAt_of_wpAny (hq (ksEnv qual scope s.heap.objs.size fI (.ref cda) cc) h₃ t1 _ k03 hx₃ X₃ ?_ rfl hxL hk (fun y hy => hka y hy) (Nat.le_refl _))) (fun _ _ z => z) fun _ _ z => z
  exact hns.at fun o e => k₃ _ _ (Nat.ne_of_gt hxL) (hnew _ _ (k₂ _ _ e))
def OwnD (h h' : Heap) (e : Addr) (d : Option Addr) (m : Str → Option Value) : Prop := match d with
  | none => True
  | some dx => h.objs.size ≤ dx ∧ dx ≠ e ∧ h'.Ns1 dx m
/-- what a made exception leaves: at e, its dict (if it has fields) at d -/
structure Made (h h' : Heap) (e C : Addr) (d : Option Addr) (m : Str → Option Value) : Prop where
  keep : ∀ b o, h.get? b = some o → h'.get? b = some o
  new : h.objs.size ≤ e
  obj : ∃ t1 : Addr, h'.get? e = some { cls := .ref C, dict := d, data := .fields #[.ref t1, .none, .none, .none, .bool false, .none] }
  own : OwnD h h' e d m
/-- a row self.f = y of such an __init__ -/
def stRow (f y : Str) (q0 q1 q2 q3 : Pos) : Stmt := .Assign [.Attribute (.Name "self" q0) f q1] (.Name y q2) q3
theorem sup_made {s : Shared} {us : List Value} (T : SupC prog K C fI ps (supRow m j p0 p1 p2 p3 p4 p5 :: rest)) (X : K.In s.heap) (G : ModIn s.heap mg) (hsup : mg "super" = none)
    (hev : SupEv m j p0 p1 p2 p3 p4)
    (hroom : A.depth + 1 < recursionLimit) (hlen : us.length + 1 = ps.length) (hz : us.length ≤ 8) (hps : ps.head? = some ("self" : Str)) (hnd : ps.Nodup)
    (hq : ∀ (x : Addr) (B : Around) (env : Env) (h0 h1 : Heap) t1 tk (R' : Result → Shared → Prop), (∀ b o, s.heap.get? b = some o → h1.get? b = some o) → s.heap.objs.size ≤ x → h1.get? x = some (HandSPX.excO C t1) → K.In h1 → h1.Ns env.locals (fun y => (ps.zip (Value.ref x :: us)).reverse.lookup y) → x < env.locals →
      env.scope.kind = .function → (∀ y ∈ ps, env.kindOf y = some .local) → K.lookup x = none →
      (∀ h' tk' d mm, (∀ b o, s.heap.get? b = some o → h'.get? b = some o) → (∃ t2 : Addr, h'.get? x = some { cls := .ref C, dict := d, data := .fields #[.ref t2, .none, .none, .none, .bool false, .none] }) → OwnD s.heap h' x d mm →
        (∀ h'' tk'' e, Made s.heap h'' e C d mm → R (.ok (.ret (.ref e))) { s with heap := h'', toks := tk'' }) → R' (.ok (.ret .none)) { s with heap := h', toks := tk' }) →
      wpAny (model prog w) B (execs rest env) (fun f s' => R' (.ok (.ret (match f with | .ret v => v | _ => .none))) s') (fun e s' => wpAny (model prog w) B (leaving env e) (fun _ s'' => R' (.error e) s'') (fun e' s'' => R' (.error e') s'') s') { s with heap := h1, toks := tk }) :
    codeAny (model prog w) A (.call (.ref C) ⟨us, []⟩) R s := by
  obtain ⟨nm, q, N, bs, bm, sn, sub, ab, col, dd, k0, k1, k2, k3, k5, hC, hbm⟩ := T.cls
  obtain ⟨hp, g, dr, tk, os⟩ := s
  have k : ∀ b o, hp.get? b = some o → ((hp.push (kdv_tup us)).push (HandSPX.excO C hp.objs.size)).get? b = some o := fun b o e => Heap.get?_push_of_some _ (Heap.get?_push_of_some _ e)
  have hget : ((hp.push (kdv_tup us)).push (HandSPX.excO C hp.objs.size)).get? (hp.objs.size + 1) = some (HandSPX.excO C hp.objs.size) := by heap_get
  have hnx : K.lookup (hp.objs.size + 1) = none := by
    cases e : K.lookup (hp.objs.size + 1) with
    | none => rfl
    | some o =>
      have z : hp.get? (hp.objs.size + 1) = some o := X _ _ e
      exact absurd (Nat.lt_of_succ_lt (Heap.lt_size z)) (Nat.lt_irrefl _)
  have hus : us.length ≤ sizeLine := Nat.le_trans hz (by decide)
  refine HandSPX.call_own F.excBase_ValueError (fun Y => HandSPX.refsVE_contains Y bm hbm) (X _ _ hC) (looks_findIn X T.iC) (fun self => bind_fn X self T.tI) hus ?_
  have G' : ModIn ((hp.push (kdv_tup us)).push (HandSPX.excO C hp.objs.size)) mg := by
    obtain ⟨mb, b1, b2⟩ := G.blt
    exact ⟨G.glob.keeps k, ⟨mb, b1.keeps k, b2⟩, G.nolimit.keeps k⟩
  refine sup_head (s := ⟨(hp.push (kdv_tup us)).push (HandSPX.excO C hp.objs.size), g, dr, tk, os⟩) T (X.keeps k) G' hsup hev hget hnx ?_ (by simpa using hlen) hps hnd (fun env h1 t1 tk1 k1 hx1 X1 n1 f1 l1 e1 e2 s1 => ?_)
  · show A.depth + 1 < recursionLimit
    exact hroom
  · have old : ∀ b o, hp.get? b = some o → h1.get? b = some o := fun b o e => k1 b o (Nat.ne_of_lt (Nat.lt_succ_of_lt (Heap.lt_size e))) (k b o e)
    refine hq (hp.objs.size + 1) _ env hp h1 t1 tk1 (InitBack (hp.objs.size + 1) R) old (Nat.le_succ _) hx1 X1 n1 l1 e1 e2 hnx (fun h' tk' d mm ko ho hd hR => ?_)
    refine ⟨rfl, hR h' tk' (hp.objs.size + 1) ⟨ko, Nat.le_succ _, ho, ?_⟩⟩
    exact hd
section
variable {q0 q1 q2 q3 r0 r1 r2 r3 : Pos} {f1 f2 y1 y2 : Str}
theorem lookup2 {a : Str} {x v : Value} (h : a ≠ "self") : (([("self", a)].map (·.1)).zip [x]).length = 1 := rfl
/-- C() -/
theorem made0 {s : Shared} (T : SupC prog K C fI ["self"] [supRow m j p0 p1 p2 p3 p4 p5]) (X : K.In s.heap) (G : ModIn s.heap mg) (hsup : mg "super" = none)
    (hev : SupEv m j p0 p1 p2 p3 p4)
    (hroom : A.depth + 1 < recursionLimit) (hR : ∀ h' tk' e, Made s.heap h' e C none (fun _ => none) → R (.ok (.ret (.ref e))) { s with heap := h', toks := tk' }) : codeAny (model prog w) A (.call (.ref C) ⟨[], []⟩) R s := by
  refine sup_made (us := []) T X G hsup hev hroom rfl (by decide) rfl (by decide +kernel) (fun x B env h0 h1 t1 tk R' ko hs hx X1 n1 l1 e1 e2 hnx hq => ?_)
  exact wpAny_execs_nil (hq h1 tk none (fun _ => none) ko ⟨t1, hx⟩ True.intro hR)
/-- C(v) -/
theorem made1 {s : Shared} {v : Value} (T : SupC prog K C fI ["self", y1] [supRow m j p0 p1 p2 p3 p4 p5, stRow f1 y1 q0 q1 q2 q3]) (X : K.In s.heap) (G : ModIn s.heap mg) (hsup : mg "super" = none)
    (hev : SupEv m j p0 p1 p2 p3 p4)
    (hn1 : findIn K (.ref C) f1 = some none) (hy : ("self" : Str) ≠ y1) (hd1 : (y1 == ("__debug__" : Str)) = false)
    (hroom : A.depth + 1 < recursionLimit) (hR : ∀ h' tk' e d, Made s.heap h' e C (some d) (fun y => if y = f1 then some v else none) → R (.ok (.ret (.ref e))) { s with heap := h', toks := tk' }) : codeAny (model prog w) A (.call (.ref C) ⟨[v], []⟩) R s := by
  refine sup_made (us := [v]) T X G hsup hev hroom rfl (by show 1 ≤ 8; decide) rfl (by simpa using hy) (fun x B env h0 h1 t1 tk R' ko hs hx X1 n1 l1 e1 e2 hnx hq => ?_)
  obtain ⟨nm, q, N, bs, bm, sn, sub, ab, col, dd, k0, k1, k2, k3, k5, hC, hbm⟩ := T.cls
  have hcl : clsIn K C = some { name := nm, bases := bs, mro := .ref C :: bm, ns := N, qualname := q, hasDict := true, slotNames := sn, subclasses := sub, abstract := ab, collection := col, hasDel := false } := by unfold clsIn; rw [hC] <;> rfl
  have v1 : (((["self", y1] : List Str).zip [Value.ref x, v]).reverse.lookup y1) = some v := by simp [List.lookup]
  have v0 : (((["self", y1] : List Str).zip [Value.ref x, v]).reverse.lookup ("self" : Str)) = some (Value.ref x) := by
    have z : (("self" : Str) == y1) = false := by simpa using hy
    simp [List.lookup, z]
  obtain ⟨hp, g, dr, tk0, os⟩ := s
  refine wpAny_execs_cons (plainObj_wpAny_Assign_Attribute ?_ (by rfl))
  refine ESX.ldL n1 v1 (ESX.ldL n1 v0 ?_ e1 (e2 _ (by simp))) e1 (e2 _ (by simp)) hd1
  refine set_plain X1 (ox := HandSPX.excO C t1) (od := none) ⟨hx, rfl, rfl, trivial⟩ T.sa ?_
  refine HandSPX.exc_osa X1 hx hcl (show HandSPX.refsVE (.ref C :: bm) = true from hbm) rfl hn1 (fun h₃ tk₃ dx k₃ dn dne hx₃ hn₃ => ?_)
  refine wpAny_execs_nil (hq h₃ tk₃ (some dx) _ (fun b o e => k₃ b o (Nat.ne_of_lt (Nat.lt_of_lt_of_le (Heap.lt_size e) hs)) (ko b o e)) ⟨t1, hx₃⟩ ⟨?_, dne, hn₃⟩ (fun h'' tk'' e M => hR h'' tk'' e dx M))
  exact Nat.le_trans (Nat.le_of_lt (Nat.lt_of_le_of_lt hs (Heap.lt_size hx))) dn
/-- C(v, z) -/
theorem made2 {s : Shared} {v z : Value} (T : SupC prog K C fI ["self", y1, y2] [supRow m j p0 p1 p2 p3 p4 p5, stRow f1 y1 q0 q1 q2 q3, stRow f2 y2 r0 r1 r2 r3]) (X : K.In s.heap) (G : ModIn s.heap mg) (hsup : mg "super" = none)
    (hev : SupEv m j p0 p1 p2 p3 p4)
    (hn1 : findIn K (.ref C) f1 = some none) (hn2 : findIn K (.ref C) f2 = some none) (hnd : (["self", y1, y2] : List Str).Nodup) (hd1 : (y1 == ("__debug__" : Str)) = false) (hd2 : (y2 == ("__debug__" : Str)) = false)
    (hroom : A.depth + 1 < recursionLimit) (hR : ∀ h' tk' e d, Made s.heap h' e C (some d) (fun y => if y = f2 then some z else if y = f1 then some v else none) → R (.ok (.ret (.ref e))) { s with heap := h', toks := tk' }) : codeAny (model prog w) A (.call (.ref C) ⟨[v, z], []⟩) R s := by
  refine sup_made (us := [v, z]) T X G hsup hev hroom rfl (by show 2 ≤ 8; decide) rfl hnd (fun x B env h0 h1 t1 tk R' ko hs hx X1 n1 l1 e1 e2 hnx hq => ?_)
  obtain ⟨nm, q, N, bs, bm, sn, sub, ab, col, dd, k0, k1, k2, k3, k5, hC, hbm⟩ := T.cls
  have hcl : clsIn K C = some { name := nm, bases := bs, mro := .ref C :: bm, ns := N, qualname := q, hasDict := true, slotNames := sn, subclasses := sub, abstract := ab, collection := col, hasDel := false } := by unfold clsIn; rw [hC] <;> rfl
  obtain ⟨a1, a2⟩ := List.nodup_cons.mp hnd
  obtain ⟨b1, _⟩ := List.nodup_cons.mp a2
  have c1 : (("self" : Str) == y1) = false := by simpa using (fun e => a1 (by rw [e]; simp) : ("self" : Str) ≠ y1)
  have c2 : (("self" : Str) == y2) = false := by simpa using (fun e => a1 (by rw [e]; simp) : ("self" : Str) ≠ y2)
  have c3 : (y1 == y2) = false := by simpa using (fun e => b1 (by rw [e]; simp) : y1 ≠ y2)
  have v2 : (((["self", y1, y2] : List Str).zip [Value.ref x, v, z]).reverse.lookup y2) = some z := by simp [List.lookup]
  have v1 : (((["self", y1, y2] : List Str).zip [Value.ref x, v, z]).reverse.lookup y1) = some v := by simp [List.lookup, c3]
  have v0 : (((["self", y1, y2] : List Str).zip [Value.ref x, v, z]).reverse.lookup ("self" : Str)) = some (Value.ref x) := by simp [List.lookup, c1, c2]
  obtain ⟨hp, g, dr, tk0, os⟩ := s
  refine wpAny_execs_cons (plainObj_wpAny_Assign_Attribute ?_ (by rfl))
  refine ESX.ldL n1 v1 (ESX.ldL n1 v0 ?_ e1 (e2 _ (by simp))) e1 (e2 _ (by simp)) hd1
  refine set_plain X1 (ox := HandSPX.excO C t1) (od := none) ⟨hx, rfl, rfl, trivial⟩ T.sa ?_
  refine HandSPX.exc_osa X1 hx hcl (show HandSPX.refsVE (.ref C :: bm) = true from hbm) rfl hn1 (fun h₃ tk₃ dx k₃ dn dne hx₃ hn₃ => ?_)
  have X3 : K.In h₃ := fun b o e => k₃ b o (fun y => by rw [y, hnx] at e; cases e) (X1 _ _ e)
  have n3 : h₃.Ns env.locals (fun y => (((["self", y1, y2] : List Str).zip [Value.ref x, v, z]).reverse.lookup y)) := n1.at fun o e => k₃ _ _ (Nat.ne_of_gt l1) e
  have nd1 : hp.objs.size ≤ dx := Nat.le_trans (Nat.le_of_lt (Nat.lt_of_le_of_lt hs (Heap.lt_size hx))) dn
  refine wpAny_execs_cons (plainObj_wpAny_Assign_Attribute ?_ (by rfl))
  refine ESX.ldL n3 v2 (ESX.ldL n3 v0 ?_ e1 (e2 _ (by simp))) e1 (e2 _ (by simp)) hd2
  have w3 : Within (fun y => if y = f1 then some v else none) [f1] := fun y hy => by
    by_cases e : y = f1
    · rw [e]; exact List.mem_cons_self ..
    · exact absurd (by show (if y = f1 then some v else none) = none; rw [if_neg e]) hy
  obtain ⟨oD, _, _, hoD, _, _⟩ := hn₃.count w3
  refine set_plain X3 (ox := { cls := .ref C, dict := some dx, data := .fields #[.ref t1, .none, .none, .none, .bool false, .none] }) (od := some oD) ⟨hx₃, rfl, rfl, hoD⟩ T.sa ?_
  refine OEX.osa_old X3 hx₃ hn₃ w3 (by show 1 ≤ 1000; decide) hcl (show HandSPX.refsVE (.ref C :: bm) = true from hbm) rfl hn2 (fun h₄ tk₄ k₄ hn₄ => ?_)
  refine wpAny_execs_nil (hq h₄ tk₄ (some dx) _ (fun b o e => k₄ b o (Nat.ne_of_lt (Nat.lt_of_lt_of_le (Heap.lt_size e) nd1)) (k₃ b o (Nat.ne_of_lt (Nat.lt_of_lt_of_le (Heap.lt_size e) hs)) (ko b o e))) ⟨t1, k₄ _ _ (Ne.symm dne) hx₃⟩ ⟨nd1, dne, hn₄⟩ (fun h'' tk'' e M => hR h'' tk'' e dx M))
end
end
/-- the classes without, with one, with two fields -/
structure Exc0 (prog : Program) (K : Frag) (mg : Str → Option Value) (x : Str) (C : Addr) : Prop where
  ex : ∃ (fI : Addr) (m : Str) (j : Nat) (p0 p1 p2 p3 p4 p5 : Pos), SupC prog K C fI ["self"] [supRow m j p0 p1 p2 p3 p4 p5] ∧ SupEv m j p0 p1 p2 p3 p4
  gC : mg x = some (.ref C)
  su : mg "super" = none
structure Exc1 (prog : Program) (K : Frag) (mg : Str → Option Value) (x : Str) (C : Addr) (f : Str) : Prop where
  ex : ∃ (fI : Addr) (y m : Str) (j : Nat) (p0 p1 p2 p3 p4 p5 q0 q1 q2 q3 : Pos), SupC prog K C fI ["self", y] [supRow m j p0 p1 p2 p3 p4 p5, stRow f y q0 q1 q2 q3] ∧ SupEv m j p0 p1 p2 p3 p4 ∧ ("self" : Str) ≠ y ∧ (y == ("__debug__" : Str)) = false
  n1 : findIn K (.ref C) f = some none
  gC : mg x = some (.ref C)
  su : mg "super" = none
structure Exc2 (prog : Program) (K : Frag) (mg : Str → Option Value) (x : Str) (C : Addr) (f g : Str) : Prop where
  ex : ∃ (fI : Addr) (y z m : Str) (j : Nat) (p0 p1 p2 p3 p4 p5 q0 q1 q2 q3 r0 r1 r2 r3 : Pos), SupC prog K C fI ["self", y, z] [supRow m j p0 p1 p2 p3 p4 p5, stRow f y q0 q1 q2 q3, stRow g z r0 r1 r2 r3] ∧ SupEv m j p0 p1 p2 p3 p4 ∧ (["self", y, z] : List Str).Nodup ∧ (y == ("__debug__" : Str)) = false ∧ (z == ("__debug__" : Str)) = false
  n1 : findIn K (.ref C) f = some none
  n2 : findIn K (.ref C) g = some none
  gC : mg x = some (.ref C)
  su : mg "super" = none
end MPX
namespace L2
open PySem PySem.Spec PyProof.Rows MPX
section
variable {X : Cx} {C : Addr} {x f g : Str} {p pos : Pos} {k : Nat}
theorem Inv.modIn {pins : List (Addr × Obj)} {σ : St} {H : Hp} {s : Shared} (I : Inv X pins σ H s) : ModIn s.heap X.mg := by
  obtain ⟨mb, b1, b2⟩ := I.mod.blt
  exact ⟨I.mod.glob.keeps I.bk, ⟨mb, b1.keeps I.bk, b2⟩, I.nolimit⟩
/-- the made exception, without a dict -/
theorem made_mkp0 {pins : List (Addr × Obj)} {σ : St} {H : Hp} {Q : XK} {hp h' : Heap} {ge : Array GenState} {dr : Drawn} {tk tk' : Nat} {os : OsState} {e : Addr} {m : Str → Option Value} (I : Inv X pins σ H ⟨hp, ge, dr, tk, os⟩) (r : Raises X (.ref C)) (M : Made hp h' e C none m) (q : Q (.ref C) none H) :
    MkP X pins σ Q (.ref e) ⟨h', ge, dr, tk', os⟩ := by
  obtain ⟨t1, hoe⟩ := M.obj
  obtain ⟨G, g1, g2⟩ := restrict h' fun b => decide (b ≠ e)
  have gk : ∀ b, b ≠ e → G.get? b = h'.get? b := fun b hb => g1 b (decide_eq_true hb)
  have gn : G.get? e = none := g2 e (by simp)
  have old : ∀ b o, hp.get? b = some o → G.get? b = some o := fun b o z => (gk b (Nat.ne_of_lt (Nat.lt_of_lt_of_le (Heap.lt_size z) M.new))).trans (M.keep b o z)
  have J : Inv X pins σ H ⟨G, ge, dr, tk', os⟩ := I.kept old
  have up : ∀ b o, G.get? b = some o → h'.get? b = some o := fun b o z => by
    by_cases hb : b = e
    · rw [hb, gn] at z; cases z
    · exact (gk b hb).symm.trans z
  exact ⟨e, _, _, ⟨G, ge, dr, tk', os⟩, H, .ref C, none, rfl, J, up, gn, hoe, ⟨rfl, rfl⟩, rfl, rfl, I.hok.fresh M.new, rfl, I.bare, r, q⟩
theorem made_mkp1 {pins : List (Addr × Obj)} {σ : St} {H : Hp} {Q : XK} {hp h' : Heap} {ge : Array GenState} {dr : Drawn} {tk tk' : Nat} {os : OsState} {e d : Addr} {m : Str → Option Value} {fs : List (Str × V)} (I : Inv X pins σ H ⟨hp, ge, dr, tk, os⟩) (r : Raises X (.ref C)) (M : Made hp h' e C (some d) m)
    (rel : ∀ y, RelO (fs.lookup y) (m y)) (q : ∀ d, H d = none → Q (.ref C) (some d) (upd H d (.xd fs))) : MkP X pins σ Q (.ref e) ⟨h', ge, dr, tk', os⟩ := by
  obtain ⟨t1, hoe⟩ := M.obj
  obtain ⟨od1, od2, od3⟩ := M.own
  obtain ⟨G, g1, g2⟩ := restrict h' fun b => decide (b ≠ e)
  have gk : ∀ b, b ≠ e → G.get? b = h'.get? b := fun b hb => g1 b (decide_eq_true hb)
  have gn : G.get? e = none := g2 e (by simp)
  have old : ∀ b o, hp.get? b = some o → G.get? b = some o := fun b o z => (gk b (Nat.ne_of_lt (Nat.lt_of_lt_of_le (Heap.lt_size z) M.new))).trans (M.keep b o z)
  have ob : ObjOk X.prog X.w (upd H d (.xd fs)) G d (.xd fs) := ⟨_, od3.at (fun o z => (gk d od2).trans z), rel⟩
  have J : Inv X pins σ (upd H d (.xd fs)) ⟨G, ge, dr, tk', os⟩ := I.laid (t' := tk') old od1 ob
  have up : ∀ b o, G.get? b = some o → h'.get? b = some o := fun b o z => by
    by_cases hb : b = e
    · rw [hb, gn] at z; cases z
    · exact (gk b hb).symm.trans z
  refine ⟨e, _, _, ⟨G, ge, dr, tk', os⟩, _, .ref C, some d, rfl, J, up, gn, hoe, ⟨rfl, rfl⟩, rfl, rfl, ?_, rfl, I.bare, r, q d (I.hok.fresh od1)⟩
  rw [upd_ne (Ne.symm od2)]
  exact I.hok.fresh M.new
theorem sup_raises {prog : Program} {fI : Addr} {ps : List Str} {body : List Stmt} (T : SupC prog X.K C fI ps body) : Raises X (.ref C) := raises_own T.exC T.tyC
def tMk0 (C : Addr) : St → Hp → XK → Prop := fun _ H Q => Q (.ref C) none H
def tMk1 (C : Addr) (f : Str) (ta : TA) : St → Hp → XK → Prop := fun σ H Q => ta σ H fun vs H1 => ∃ v, vs = [v] ∧ ∀ d, H1 d = none → Q (.ref C) (some d) (upd H1 d (.xd [(f, v)]))
def tMk2 (C : Addr) (f g : Str) (ta : TA) : St → Hp → XK → Prop := fun σ H Q => ta σ H fun vs H1 => ∃ v z, vs = [v, z] ∧ ∀ d, H1 d = none → Q (.ref C) (some d) (upd H1 d (.xd [(g, z), (f, v)]))
theorem pmk_x0 (T : Exc0 X.prog X.K X.mg x C) (hr : Room (k + 2) X.A) (hg : Gl X x) (hdb : (x == ("__debug__" : Str)) = false := by decide) : PMk X (.Call (.Name x p) [] [] pos) (tMk0 C) := by
  obtain ⟨fI, m, j, p0, p1, p2, p3, p4, p5, S, ev⟩ := T.ex
  intro pins s σ H Q I h
  refine wpAny_Call_Name_kw (ld_glob I hg T.gC ?_ hdb)
  refine PySem.W.callWith_K0 I.kIn S.kC ?_
  obtain ⟨hp, ge, dr, tk, os⟩ := s
  exact wpAny_call (made0 S I.kIn I.modIn T.su ev (by have := hr.dp; omega) fun h' tk' e M => made_mkp0 I (sup_raises S) M h)
theorem relO_1 {f : Str} {v : V} {u : Value} (r : RelV v u) (y : Str) : RelO (([(f, v)] : List (Str × V)).lookup y) (if y = f then some u else none) := by
  by_cases e : y = f
  · rw [if_pos e, e]
    have q : List.lookup f [(f, v)] = some v := by simp [List.lookup]
    rw [q]
    exact r
  · rw [if_neg e]
    have z : (y == f) = false := by simpa using e
    simp [List.lookup, z, RelO]
theorem relO_2 {f g : Str} {v z : V} {u w : Value} (r : RelV v u) (r2 : RelV z w) (y : Str) : RelO (([(g, z), (f, v)] : List (Str × V)).lookup y) (if y = g then some w else if y = f then some u else none) := by
  by_cases e : y = g
  · rw [if_pos e, e]
    have q : List.lookup g [(g, z), (f, v)] = some z := by simp [List.lookup]
    rw [q]
    exact r2
  · rw [if_neg e]
    have zz : (y == g) = false := by simpa using e
    have q := relO_1 r y (f := f)
    simpa [List.lookup, zz] using q
theorem pmk_x1 {a : Expr} {ta : TA} (T : Exc1 X.prog X.K X.mg x C f) (hr : Room (k + 2) X.A) (ha : PA X [a] ta) (hg : Gl X x) (hdb : (x == ("__debug__" : Str)) = false := by decide)
    (he : starEach (a :: []) X.env = (false, eval a X.env) :: starEach [] X.env := by rfl) (hpl : (backTo pos (starEach [] X.env)).any (·.1) = false := by rfl) : PMk X (.Call (.Name x p) [a] [] pos) (tMk1 C f ta) := by
  obtain ⟨fI, y, m, j, p0, p1, p2, p3, p4, p5, q0, q1, q2, q3, S, ev, n, nd⟩ := T.ex
  intro pins s σ H Q I h
  refine wpAny_Call_Name_kw (ld_glob I hg T.gC ?_ hdb)
  refine PySem.W.callWith_K (h₀ := X.base) I.ok.mod.kin S.kC (thn (ha.run pos pins s σ H _ I h) fun us s1 hh => ?_) he hpl
  obtain ⟨vs, H1, I1, r1, v, e1, q⟩ := hh
  subst e1
  refine ⟨I1.kIn, ?_⟩
  obtain ⟨u, rfl, rv⟩ := vals1 r1
  obtain ⟨hp, ge, dr, tk, os⟩ := s1
  exact wpAny_call (made1 S I1.kIn I1.modIn T.su ev T.n1 n nd (by have := hr.dp; omega) fun h' tk' e d M => made_mkp1 I1 (sup_raises S) M (relO_1 rv) q)
theorem pmk_x2 {a b : Expr} {ta : TA} (T : Exc2 X.prog X.K X.mg x C f g) (hr : Room (k + 2) X.A) (ha : PA X [a, b] ta) (hg : Gl X x) (hdb : (x == ("__debug__" : Str)) = false := by decide)
    (he : starEach (a :: [b]) X.env = (false, eval a X.env) :: starEach [b] X.env := by rfl) (hpl : (backTo pos (starEach [b] X.env)).any (·.1) = false := by rfl) : PMk X (.Call (.Name x p) [a, b] [] pos) (tMk2 C f g ta) := by
  obtain ⟨fI, y, yz, m, j, p0, p1, p2, p3, p4, p5, q0, q1, q2, q3, r0, r1, r2, r3, S, ev, n, nd1, nd2⟩ := T.ex
  intro pins s σ H Q I h
  refine wpAny_Call_Name_kw (ld_glob I hg T.gC ?_ hdb)
  refine PySem.W.callWith_K (h₀ := X.base) I.ok.mod.kin S.kC (thn (ha.run pos pins s σ H _ I h) fun us s1 hh => ?_) he hpl
  obtain ⟨vs, H1, I1, r1, v, z, e1, q⟩ := hh
  subst e1
  refine ⟨I1.kIn, ?_⟩
  obtain ⟨u, w, rfl, rv, rw'⟩ := vals2 r1
  obtain ⟨hp, ge, dr, tk, os⟩ := s1
  exact wpAny_call (made2 S I1.kIn I1.modIn T.su ev T.n1 T.n2 n nd1 nd2 (by have := hr.dp; omega) fun h' tk' e d M => made_mkp1 I1 (sup_raises S) M (relO_2 rv rw') q)
end
end L2
namespace MPX
open PySem PySem.Spec PyProof.Rows L2
open L2H (RoomH PinOk cxH inv_startH)
/-- p's object: an exception of the class cls, its dict at d -/
def ExcIs (cls : Value) (d : Option Addr) (p : Addr × Obj) : Prop := Zc cls d p.2 ∧ ∃ vs, p.2.data = .fields vs
theorem pe_imp {X : Cx} {e : Expr} {t t' : TE} (h : PE X e t) (i : ∀ σ H Q, t' σ H Q → t σ H Q) : PE X e t' := ⟨fun pins s σ H Q I q => h.run pins s σ H Q I (i σ H Q q)⟩
def DOk (d : Option Addr) (fs : List (Str × V)) (H : Hp) : Prop := match d with
  | none => fs = []
  | some dd => H dd = some (.xd fs)
theorem DOk.same {d : Option Addr} {fs : List (Str × V)} {H H' : Hp} (h : DOk d fs H) (s : ∀ b o, H b = some o → H' b = some o) : DOk d fs H' := by
  cases d with
  | none => exact h
  | some dd => exact s _ _ h
section
variable {X : Cx} {C a : Addr} {d : Option Addr} {p : Addr × Obj} {fs : List (Str × V)}
theorem inst_of {pins : List (Addr × Obj)} {σ : L2.St} {H : Hp} {s : Shared} (I : Inv X pins σ H s) (hp : p ∈ X.pn) (hz : ExcIs (.ref C) d p) (hd : DOk d fs H) : ∃ od, PySem.W.InstAt s.heap p.1 p.2 C od := by
  obtain ⟨hget, _⟩ := I.pin p (List.mem_append_left _ hp)
  obtain ⟨⟨h1, h2⟩, vs, hv⟩ := hz
  have nc : PySem.W.notCls p.2 = true := by unfold PySem.W.notCls; rw [hv] <;> rfl
  cases d with
  | none => exact ⟨none, hget, h1, nc, by rw [h2]; trivial⟩
  | some dd =>
    have hx : ObjOk X.prog X.w H s.heap dd (.xd fs) := I.hok dd _ hd
    obtain ⟨mA, hns, hr⟩ := hx
    obtain ⟨od, ho, hl⟩ := lookIn_ns hns
    exact ⟨some od, hget, h1, nc, by rw [h2]; exact ho⟩
/-- isinstance(e, c), e a pinned exception -/
def rIsP (K : PySem.W.Frag) (a : Addr) (cls : Value) (d : Option Addr) : List V → Hp → VK → Prop := fun xs H Q => ∃ (C : Addr) (c : V) (cv : Value) (b : Bool) (fs : List (Str × V)), cls = .ref C ∧ ExcC K C ∧ xs = [.ref a, c] ∧ (∀ u, RelV c u → u = cv) ∧ PySem.W.kitOne K (.ref C) cv = some b ∧ DOk d fs H ∧ Q (.bl b) H
theorem call_isP {cls : Value} (hp : p ∈ X.pn) (hz : ExcIs cls d p) : CallR X (.builtin "isinstance") (rIsP X.K p.1 cls d) := by
  intro pins s σ H xs us Q I r h
  obtain ⟨C, c, cv, b, fs, ec0, T, rfl, hcv, e, hd, q⟩ := h
  subst ec0
  obtain ⟨u1, u2, rfl, r1, r2⟩ := vals2 r
  cases r1
  have ec := hcv _ r2
  subst ec
  obtain ⟨od, J⟩ := inst_of I hp hz hd
  have hcl : (PySem.W.clsIn X.K C).isSome = true := by
    obtain ⟨cd, hc, _⟩ := PySem.W.any_some T.hd
    rw [hc]
    rfl
  exact PySem.W.kia_one (PySem.W.kitx_exc hcl T.hg T.hk T.hs T.ha T.hn T.ht T.hm) I.kIn J e (fun z => nomatch z) fun tk => ⟨.bl b, H, I.kept (t' := tk) fun _ _ z => z, rfl, q⟩
/-- e.n, e a pinned exception -/
def tPf (K : PySem.W.Frag) (a : Addr) (cls : Value) (d : Option Addr) (n : Str) (te : TE) : TE := fun σ H Q => te σ H fun x H1 => x = .ref a ∧ ∃ (C : Addr), cls = .ref C ∧ XfC K C ∧ PySem.W.findIn K (.ref C) n = some none ∧ ∃ (dd : Addr) (fs : List (Str × V)) (v : V), d = some dd ∧ H1 dd = some (.xd fs) ∧ fs.lookup n = some v ∧ Q v H1
theorem pe_pf {cls : Value} {n : Str} {e : Expr} {te : TE} {pos : Pos} (hp : p ∈ X.pn) (hz : ExcIs cls d p) (he : PE X e te)
    (hb : attributeBase e n X.env (eval e X.env) = eval e X.env := by rfl) : PE X (.Attribute e n pos) (tPf X.K p.1 cls d n te) := by
  constructor
  intro pins s σ H Q I h
  refine attr_of hb (thn (he.run pins s σ H _ I h) fun u s1 hh => ?_)
  obtain ⟨x, H1, I1, rx, ex, C, ec0, T, hno, dd, fs, v, ed, hd, l, q⟩ := hh
  subst ex
  subst ec0
  subst ed
  cases rx
  obtain ⟨hget, _⟩ := I1.pin p (List.mem_append_left _ hp)
  obtain ⟨⟨h1, h2⟩, vs, hv⟩ := hz
  have hx : ObjOk X.prog X.w H1 s1.heap dd (.xd fs) := I1.hok dd _ hd
  obtain ⟨mA, hns, hr⟩ := hx
  obtain ⟨od, ho, hl⟩ := lookIn_ns hns
  have q2 := hr n
  rw [l] at q2
  obtain ⟨u, hu, ru⟩ := RelO.some_of q2
  have J : PySem.W.InstAt s1.heap p.1 p.2 C (some od) := ⟨hget, h1, by unfold PySem.W.notCls; rw [hv] <;> rfl, by rw [h2]; exact ho⟩
  exact HandSPX.exc_get I1.kIn J T.ga T.gg T.exC (PySem.W.findObj_own T.hdC hno rfl (by rw [hl, hu])) (handed_of ru) ⟨v, H1, I1.tok _, ru, q⟩
end
/-! ### a def that is called within an except suite; p: the exception that is pinned there -/
structure FnP (P : Program) (w : World) (K : PySem.W.Frag) (mg : Str → Option Value) (base : Heap) (k : Nat) (f : Addr) (fd : FuncData) (ps : List Str) (sp : Addr × Obj → Sp) : Prop where
  len : ∀ p vs H Q E, sp p vs H Q E → vs.length = ps.length
  run : ∀ (A : Around) (outer : List Env) (s : Shared) (H : Hp) (us : List Value) (vs : List V) (Q : VK) (p : Addr × Obj), RoomH k A → PinOk outer H s p → Env0 P w K mg base A outer s H → BindsTo s fd ⟨us, []⟩ (ps.zip us) → Vals vs us → sp p vs H Q E0 →
    codeAny (model P w) A (.call (.ref f) ⟨us, []⟩) (CR CX0 outer P w H s Q E0) s
theorem fnP_of {P : Program} {w : World} {K : PySem.W.Frag} {mg : Str → Option Value} {base : Heap} {k : Nat} {f : Addr} {fd : FuncData} {x qual : Str} {st : Stmt} {N ps : List Str} {sp : Addr × Obj → Sp}
    (F : Fun K x qual st f fd) (S : FnScope N ps (defScope st)) (len : ∀ p vs H Q E, sp p vs H Q E → vs.length = ps.length)
    (hbody : ∀ (cdv : Value) (A : Around) (outer : List Env) (s : Shared) (H : Hp) (vs : List V) (Q : VK) (p : Addr × Obj), RoomH k (A.deeper (envOfC qual (defScope st) s.heap.objs.size f cdv)) → sp p vs H Q E0 →
      ∃ t, PSs (cxH CX0 P w K mg base N qual (defScope st) f cdv A outer s H E0 p).nox (defBody st) t ∧ t { nx := fun _ H' => Q .non H', rt := Q } (L2.start N vs) H) :
    FnP P w K mg base (k + 1) f fd ps sp := by
  obtain ⟨oc, od, kV, doc, pm, an, cdv, ct, osl, rfl, lk, hcd⟩ := F.ex
  constructor
  · exact len
  intro A outer s H us vs Q p hr hpin e0 hb r hsp
  have keep : ∀ b o, base.get? b = some o → s.heap.get? b = some o := fun b o e => (e0.bs b o e).1
  have KX : K.In s.heap := e0.mod.kin.keeps keep
  refine codeAny_call_function hr.depth (KX _ _ lk) rfl S.co S.gen rfl (PySem.W.codeRec_of KX hcd) (hb _ _ _ _ ?_)
  refine wpAny_newFunctionEnv_cells S.kind (fun y hy => ?_) fun env he s1 ic => ?_
  · rcases S.par y.1 (List.of_mem_zip hy).1 with q | q
    · exact Or.inl q
    · exact Or.inr ⟨q, PySem.W.cellsFrom_some _ _ _ (.inl q)⟩
  subst he
  have lim : s1.heap.NoLimit := (e0.mod.nolimit.keeps keep).keeps ic.toInCall.keep
  refine ⟨lim, codeAny_func ?_⟩
  obtain ⟨t, ht, hq⟩ := hbody cdv A outer s H vs Q p (hr.deeper _) hsp
  have I := inv_startH (CX := CX0) (P := P) (w := w) (K := K) (mg := mg) (base := base) (f := f) (cd := cdv) (E := E0) S hpin e0 (len _ _ _ _ _ hsp) r ic
  refine wpAny_mono (ht.nox.run [] s1 (L2.start N vs) H _ I hq) (fun fl s' hs => ?_) (fun _ _ hs => hs)
  cases fl with
  | ret u =>
    obtain ⟨v, σ', H', J, rv, q⟩ := hs
    exact ⟨v, H', J.os, J.bare, J.base, J.hok, rv, q⟩
  | next =>
    obtain ⟨σ', H', J, q⟩ := hs
    exact ⟨V.non, H', J.os, J.bare, J.base, J.hok, rfl, q⟩
  | brk => exact (hs.choose_spec.choose_spec.2 : False).elim
  | cont => exact (hs.choose_spec.choose_spec.2 : False).elim
structure CalP (P : Program) (w : World) (K : PySem.W.Frag) (mg : Str → Option Value) (base : Heap) (k : Nat) (x : Str) (sp : Addr × Obj → Sp) : Prop where
  ex : ∃ (f : Addr) (fd : FuncData) (ps : List Str), FnP P w K mg base k f fd ps sp ∧ mg x = some (.ref f) ∧ PySem.W.keepIn K (.ref f) = true ∧ Binds K fd ps []
def tCallP (sp : Sp) (t : TA) : TE := fun σ H Q => t σ H fun vs H1 => sp vs H1 Q E0
theorem pe_cp {X : Cx} {k j : Nat} {x : Str} {sp : Addr × Obj → Sp} {p : Addr × Obj} {q pos : Pos} {e : Expr} {es : List Expr} {t : TA} (c : CalP X.prog X.w X.K X.mg X.base k x sp) (hr : RoomH j X.A) (hk : k ≤ j) (hp : p ∈ X.pn) (hg : Gl X x) (ha : PA X (e :: es) t)
    (hdb : (x == ("__debug__" : Str)) = false := by decide) (he : starEach (e :: es) X.env = (false, eval e X.env) :: starEach es X.env := by rfl) (hpl : (backTo pos (starEach es X.env)).any (·.1) = false := by rfl) :
    PE X (.Call (.Name x q) (e :: es) [] pos) (tCallP (sp p) t) := by
  obtain ⟨f, fd, ps, F, hm, kp, hb⟩ := c.ex
  constructor
  intro pins s σ H Q I h
  refine wpAny_Call_Name_kw (ld_glob I hg hm ?_ hdb)
  refine PySem.W.callWith_K (h₀ := X.base) I.ok.mod.kin kp (thn (ha.run pos pins s σ H _ I h) fun us s1 hh => ?_) he hpl
  obtain ⟨vs, H1, I1, r, q1⟩ := hh
  refine ⟨I1.kIn, ?_⟩
  have hl : us.length = ps.length := by rw [← r.length]; exact F.len _ _ _ _ _ q1
  have b := hb s1 us I1.kIn (by rw [List.append_nil]; exact hl)
  rw [List.append_nil] at b
  obtain ⟨P1, P2, P3, P4, P5⟩ := I1.pin p (List.mem_append_left _ hp)
  have pin : PinOk X.stack H1 s1 p := ⟨P1, P2, fun hm => (List.mem_cons.mp (I1.stkSub p.1 hm)).elim P3 P4, P5⟩
  show wpAny _ _ (call (.ref f) us) _ _ _
  refine wpAny_call (codeAny_mono (F.run X.A X.stack s1 H1 us vs Q p (hr.mono hk) pin I1.env0 b r q1) fun r s' hq => ?_)
  cases r with
  | error e => exact False.elim hq
  | ok fl =>
    cases fl with
    | ret u => exact I1.after hq
    | next => exact False.elim hq
    | brk => exact False.elim hq
    | cont => exact False.elim hq
theorem x_mk0 {C : Addr} {σ : L2.St} {H : Hp} {Q : XK} (h : Q (.ref C) none H) : tMk0 C σ H Q := h
theorem x_mk1 {C : Addr} {f : Str} {ta : TA} {σ : L2.St} {H : Hp} {Q : XK} (h : ta σ H fun vs H1 => ∃ v, vs = [v] ∧ ∀ d, H1 d = none → Q (.ref C) (some d) (upd H1 d (.xd [(f, v)]))) : tMk1 C f ta σ H Q := h
theorem x_mk2 {C : Addr} {f g : Str} {ta : TA} {σ : L2.St} {H : Hp} {Q : XK} (h : ta σ H fun vs H1 => ∃ v z, vs = [v, z] ∧ ∀ d, H1 d = none → Q (.ref C) (some d) (upd H1 d (.xd [(g, z), (f, v)]))) : tMk2 C f g ta σ H Q := h
theorem x_callP {sp : Sp} {tr : TA} {σ : L2.St} {H : Hp} {Q : VK} (h : tr σ H fun vs H1 => sp vs H1 Q E0) : tCallP sp tr σ H Q := h
end MPX
namespace MP
open PySem L2
/-! ### steps of a reading, at its head -/
section
variable {K : PySem.W.Frag} {σ : L2.St} {H : Hp} {D : Ends} {Q : VK} {te ta tb tc : TE} {tt uu : TT} {t u : TS} {g : TG} {r : R2} {i : Nat} {v : V}
theorem x_seq (h : t { D with nx := u D } σ H) : tSeq t u D σ H := h
theorem x_next (h : D.nx σ H) : tNext D σ H := h
theorem x_brk (h : D.bk σ H) : tBreak D σ H := h
theorem x_cont (h : D.ct σ H) : tCont D σ H := h
theorem x_drop (h : te σ H fun _ H1 => D.nx σ H1) : tDrop te D σ H := h
theorem x_ret (h : te σ H D.rt) : tRet te D σ H := h
theorem x_retN (h : D.rt .non H) : tRetN D σ H := h
theorem x_ifs (h : tt σ H fun b H1 => if b = true then t D σ H1 else u D σ H1) : tIfS tt t u D σ H := h
theorem x_asg (h : te σ H fun x H1 => g x σ H1 D.nx) : tAsg te g D σ H := h
theorem x_name {R : L2.St → Hp → Prop} (h : R (σ.set i (some v)) H) : gName i v σ H R := h
theorem x_var (e : σ[i]? = some (some v)) (h : Q v H) : tVar i σ H Q := ⟨v, e, h⟩
theorem x_c (h : Q v H) : tC v σ H Q := h
theorem x_op (h : ta σ H fun x H1 => tb σ H1 fun y H2 => r x y H2 Q) : tOp r ta tb σ H Q := h
theorem x_un {r : V → Hp → VK → Prop} (h : ta σ H fun x H1 => r x H1 Q) : tUn r ta σ H Q := h
theorem x_test {R : Bool → Hp → Prop} (h : te σ H fun x H' => ∃ k, x = .bl k ∧ R k H') : tTest te σ H R := h
theorem x_tB {R : Bool → Hp → Prop} (h : te σ H fun x H' => ∃ k, x = .bl k ∧ R k H') : tB te σ H R := h
theorem x_and {R : Bool → Hp → Prop} (h : tt σ H fun c H1 => if c = true then uu σ H1 R else R false H1) : tAnd tt uu σ H R := h
theorem x_or {R : Bool → Hp → Prop} (h : tt σ H fun c H1 => if c = true then R true H1 else uu σ H1 R) : tOr tt uu σ H R := h
theorem x_not {R : Bool → Hp → Prop} (h : tt σ H fun c H1 => R (!c) H1) : tNot tt σ H R := h
theorem x_andV (h : ta σ H fun x H1 => ∃ c, x = .bl c ∧ if c = true then tb σ H1 Q else Q (.bl false) H1) : tAndV ta tb σ H Q := h
theorem x_orV (h : ta σ H fun x H1 => ∃ c, x = .bl c ∧ if c = true then Q (.bl true) H1 else tb σ H1 Q) : tOrV ta tb σ H Q := h
theorem x_notV (h : ta σ H fun x H1 => ∃ c, x = .bl c ∧ Q (.bl (!c)) H1) : tNotV ta σ H Q := h
theorem x_if (h : tt σ H fun c H1 => if c = true then ta σ H1 Q else tb σ H1 Q) : tIf tt ta tb σ H Q := h
theorem x_nil {R : List V → Hp → Prop} (h : R [] H) : tNil σ H R := h
theorem x_cons {tr : TA} {R : List V → Hp → Prop} (h : ta σ H fun x H1 => tr σ H1 fun xs H2 => R (x :: xs) H2) : tCons ta tr σ H R := h
theorem x_tup {tr : TA} (h : tr σ H fun xs H1 => xs.length ≤ sizeLine ∧ ∀ p, H1 p = none → Q (.ref p) (upd H1 p (.tup xs))) : tTup tr σ H Q := h
theorem x_lst {tr : TA} (h : tr σ H fun xs H1 => xs.length ≤ sizeLine ∧ ∀ p, H1 p = none → Q (.ref p) (upd H1 p (.lst xs))) : tLst tr σ H Q := h
theorem x_cb {r : List V → Hp → VK → Prop} {tr : TA} (h : tr σ H fun vs H1 => r vs H1 Q) : tCB r tr σ H Q := h
theorem x_call {sp : Sp} {dvs : List V} {E : XK} {tr : TA} (h : tr σ H fun vs H1 => sp (vs ++ dvs) H1 Q E) : tCall sp dvs E tr σ H Q := h
theorem x_m0 {r : V → List V → Hp → VK → Prop} (h : ta σ H fun x H1 => (∃ a, x = .str a) ∧ r x [] H1 Q) : tM0 r ta σ H Q := h
theorem x_m1 {r : V → List V → Hp → VK → Prop} (h : ta σ H fun x H1 => (∃ a, x = .str a) ∧ tb σ H1 fun y H2 => r x [y] H2 Q) : tM1 r ta tb σ H Q := h
theorem x_bm0 {T : String} {r : V → List V → Hp → VK → Prop} (h : ta σ H fun x H1 => tyV K T x H1 ∧ r x [] H1 Q) : tBM0 K T r ta σ H Q := h
theorem x_bm {T : String} {tr : TA} {r : V → List V → Hp → VK → Prop} (h : ta σ H fun x H1 => tyV K T x H1 ∧ tr σ H1 fun xs H2 => r x xs H2 Q) : tBM K T r ta tr σ H Q := h
theorem x_par {j : Nat} {tr : TA} (h : tr σ H fun vs H1 => ∃ v w, vs = [v, w] ∧ D.nx ((σ.set i (some v)).set j (some w)) H1) : tPar i j tr D σ H := h
theorem x_eq {x y : V} (hs : scal x y = true) (h : Q (.bl (decide (x = y))) H) : rEq x y H Q := ⟨hs, h⟩
theorem x_ne {x y : V} (hs : scal x y = true) (h : Q (.bl (!decide (x = y))) H) : rNe x y H Q := ⟨hs, h⟩
theorem x_rI0 {f : Int → Int → V} {a b : Int} (h : Q (f a b) H) : rI0 f (.int a) (.int b) H Q := ⟨a, b, rfl, rfl, h⟩
theorem x_rI {C : Int → Int → Prop} {f : Int → Int → V} {a b : Int} (hc : C a b) (h : Q (f a b) H) : rI C f (.int a) (.int b) H Q := ⟨a, b, rfl, rfl, hc, h⟩
theorem x_ilist {R : It → Hp → Prop} (h : ta σ H fun x H1 => ∃ a, x = V.ref a ∧ (∃ xs, SqL K H1 a xs) ∧ R (Itl K a) H1) : iList K ta σ H R := h
theorem x_itup {R : It → Hp → Prop} (h : ta σ H fun x H1 => ∃ a, x = V.ref a ∧ (∃ xs, SqT K H1 a xs) ∧ R (Itt K a) H1) : iTup K ta σ H R := h
theorem x_istr {R : It → Hp → Prop} (h : ta σ H fun v H1 => ∃ x, v = V.str x ∧ R (Its x) H1) : iStr ta σ H R := h
theorem x_T {A B : Prop} (h : A) : if true = true then A else B := by rw [if_pos rfl]; exact h
theorem x_F {A B : Prop} (h : B) : if false = true then A else B := by rw [if_neg Bool.false_ne_true]; exact h
theorem x_D {p A B : Prop} [Decidable p] (h1 : p → A) (h2 : ¬ p → B) : if decide p = true then A else B := by
  by_cases h : p
  · rw [decide_eq_true h, if_pos rfl]; exact h1 h
  · rw [decide_eq_false h, if_neg Bool.false_ne_true]; exact h2 h
theorem x_ND {p A B : Prop} [Decidable p] (h1 : ¬ p → A) (h2 : p → B) : if (!decide p) = true then A else B := by
  by_cases h : p
  · rw [decide_eq_true h]; exact x_F (h2 h)
  · rw [decide_eq_false h]; exact x_T (h1 h)
theorem x_B {b : Bool} {A B : Prop} (h1 : b = true → A) (h2 : b = false → B) : if b = true then A else B := by
  cases b with
  | true => rw [if_pos rfl]; exact h1 rfl
  | false => rw [if_neg Bool.false_ne_true]; exact h2 rfl
theorem x_NB {b : Bool} {A B : Prop} (h1 : b = false → A) (h2 : b = true → B) : if (!b) = true then A else B := by
  cases b with
  | true => exact x_F (h2 rfl)
  | false => exact x_T (h1 rfl)
end
/-- a comprehension over a list whose test and element touch nothing that lasts -/
theorem lc_pure {K : PySem.W.Frag} {a : Addr} {xs : List V} {g : TG} {tt : TT} {te : TE} {vs : List Nat} {σ : L2.St} {H1 : Hp} {D : Addr} {Qd : Hp → Prop} (f : V → Bool) (v : V → V)
    (hx : SqL K H1 a xs) (hn : H1 D = none) (hz : xs.length < 100000)
    (hs : ∀ x H (acc : List V) (R : Hp → Prop), x ∈ xs → Same H1 H → H D = some (.lst acc) → acc.length < sizeLine → (f x = true → R (upd H D (.lst (acc ++ [v x])))) → (f x = false → R H) → g x (wipe σ vs) H fun σ2 H2 => wipe σ2 vs = wipe σ vs ∧ tt σ2 H2 fun b H3 =>
      if b = true then te σ2 H3 fun y H4 => ∃ acc, H4 D = some (.lst acc) ∧ acc.length < sizeLine ∧ R (upd H4 D (.lst (acc ++ [y]))) else R H3)
    (hd : Qd (upd H1 D (.lst ((xs.filter f).map v)))) :
    ∃ W : Nat → Nat → Hp → Prop, (∃ m, W 0 m (upd H1 D (.lst []))) ∧ ∀ i m H, W i m H →
      ((Itl K a).stop i H ∧ Qd H) ∨ ((Itl K a).go i H ∧ ∃ Nx : Hp → Prop, (∀ H', Nx H' → ∃ m', m' < m ∧ W (i + 1) m' H') ∧ ∀ x H', (Itl K a).yld i H x H' → g x (wipe σ vs) H' fun σ2 H2 => wipe σ2 vs = wipe σ vs ∧ tt σ2 H2 fun b H3 =>
        if b = true then te σ2 H3 fun y H4 => ∃ acc, H4 D = some (.lst acc) ∧ acc.length < sizeLine ∧ Nx (upd H4 D (.lst (acc ++ [y]))) else Nx H3) := by
  have same : ∀ o, Same H1 (upd H1 D o) := fun o b u e => by rw [upd_ne (ne_of_none e hn)]; exact e
  refine lc_list (xs := xs) (fun i H => H = upd H1 D (.lst (((xs.take i).filter f).map v))) rfl (fun i H _ e => ?_) (fun i x H hi e => ?_) (fun H e => ?_)
  · rw [e]
    exact (same _).seq hx
  · subst e
    have hil := (List.getElem?_eq_some_iff.mp hi).1
    have htake : xs.take (i + 1) = xs.take i ++ [x] := by rw [List.take_add_one, hi]; rfl
    have hlen : (((xs.take i).filter f).map v).length < sizeLine := by
      rw [List.length_map]
      have h1 := List.length_filter_le f (xs.take i)
      rw [List.length_take] at h1
      have : (100000 : Nat) ≤ sizeLine := by decide
      omega
    refine hs x _ (((xs.take i).filter f).map v) _ (List.mem_of_getElem? hi) (same _) upd_same hlen (fun hf => ?_) (fun hf => ?_)
    · rw [htake, List.filter_append, List.map_append, upd_upd, List.filter_cons_of_pos hf]
      rfl
    · rw [htake, List.filter_append, List.map_append, List.filter_cons_of_neg (by rw [hf]; decide)]
      simp
  · subst e
    rw [List.take_length]
    exact hd
theorem len_ok {xs : List V} (h : Nat.ble xs.length 1000 = true) : xs.length ≤ sizeLine := Nat.le_trans (Nat.le_of_ble_eq_true h) (by decide)
theorem big5 : (100000 : Nat) ≤ sizeLine := by decide
theorem upd_new {H : Hp} {p q : Addr} {o u : HO} (h : H q = some u) (n : H p = none) : upd H p o q = some u := by rw [upd_ne (ne_of_none h n)]; exact h
theorem same_upd {H : Hp} {p : Addr} {o : HO} (n : H p = none) : Same H (upd H p o) := fun b u e => upd_new e n
section
variable {K : PySem.W.Frag} {σ : L2.St} {H : Hp} {Q : VK} {te : TE} {to tl th : TO}
theorem x_sl {r : V → Option Int → Option Int → Hp → VK → Prop} (h : te σ H fun x H1 => tl σ H1 fun l H2 => th σ H2 fun u H3 => r x l u H3 Q) : tSl r te tl th σ H Q := h
theorem x_nopart {R : Option Int → Hp → Prop} (h : R none H) : tNoPart σ H R := h
theorem x_part {R : Option Int → Hp → Prop} (h : te σ H fun x H1 => ∃ i, x = V.int i ∧ R (some i) H1) : tPart te σ H R := h
theorem x_slL {a : Addr} {xs : List V} {lo hi : Option Int} (hs : SqL K H a xs) (h : ∀ p, H p = none → Q (.ref p) (upd H p (.lst (cutV xs lo hi)))) : rSlL K (.ref a) lo hi H Q := ⟨a, xs, rfl, hs, h⟩
theorem x_ixL {a : Addr} {xs : List V} {i : Int} {v : V} (hs : SqL K H a xs) (ha : atI xs i = some v) (h : Q v H) : rIxL K (.ref a) (.int i) H Q := ⟨a, xs, i, v, rfl, rfl, hs, ha, h⟩
theorem x_ixT {a : Addr} {xs : List V} {i : Int} {v : V} (hs : SqT K H a xs) (ha : atI xs i = some v) (h : Q v H) : rIxT K (.ref a) (.int i) H Q := ⟨a, xs, i, v, rfl, rfl, hs, ha, h⟩
theorem x_mod {i j : Int} (hj : 0 < j) (h : ∀ r, r = i % j → 0 ≤ r → r < j → Q (.int r) H) : rI (fun _ j => j ≠ 0) (fun i j => .int (i.fmod j)) (.int i) (.int j) H Q :=
  ⟨i, j, rfl, rfl, by show j ≠ 0; omega, by
    show Q (.int (i.fmod j)) H
    rw [Int.fmod_eq_emod_of_nonneg i (by omega)]
    exact h _ rfl (Int.emod_nonneg _ (by omega)) (Int.emod_lt_of_pos _ hj)⟩
theorem divW {i j : Int} (h : 0 < j) (h2 : j < 18446744073709551616) : CDivW i j := wide_div h (b := 64) (by omega) (by decide) (by decide)
theorem mulW {i j : Int} (h : i.natAbs < 18446744073709551616) (h2 : j.natAbs < 18446744073709551616) : CMulW i j := wide_mul (a := 64) (b := 64) h h2 (by decide) (by decide) (by decide)
theorem x_disp {trs : List (TE × TE)} (h : ∀ p, H p = none → tPairs trs σ (upd H p (.dK [])) fun ps H2 => H2 p = some (.dK []) ∧ ∃ kvs : List (Key × V), ps = kvs.map (fun kv => (kV kv.1, kv.2)) ∧ kvs.length ≤ 15 ∧ Q (.ref p) (upd H2 p (.dK (mergeK [] kvs)))) : tDisp trs σ H Q := h
theorem x_pcons {tk tv : TE} {r : List (TE × TE)} {R : List (V × V) → Hp → Prop} (h : tk σ H fun x H1 => tv σ H1 fun y H2 => tPairs r σ H2 fun ps H3 => R ((x, y) :: ps) H3) : tPairs ((tk, tv) :: r) σ H R := h
theorem x_pnil {R : List (V × V) → Hp → Prop} (h : R [] H) : tPairs [] σ H R := h
end
/-! ### a def of the module that can be called; a statement with a word behind it -/
structure Cal (P : Program) (w : World) (K : PySem.W.Frag) (mg : Str → Option Value) (base : Heap) (k : Nat) (x : Str) (sp : Sp) : Prop where
  ex : ∃ (f : Addr) (fd : FuncData) (ps : List Str), FnOk P w K mg base (L2.CX P w) k f fd ps sp ∧ mg x = some (.ref f) ∧ PySem.W.keepIn K (.ref f) = true ∧ Binds K fd ps []
theorem fn_cx {P : Program} {w : World} {K : PySem.W.Frag} {mg : Str → Option Value} {base : Heap} {k : Nat} {f : Addr} {fd : FuncData} {ps : List Str} {sp : Sp} (F : FnOk P w K mg base CX0 k f fd ps sp) : FnOk P w K mg base (L2.CX P w) k f fd ps sp := by
  refine ⟨F.len, fun A outer s H args us vs Q E hr e0 hb hv hs => codeAny_mono (F.run A outer s H args us vs Q E hr e0 hb hv hs) fun r s' h => ?_⟩
  cases r with
  | error e => exact False.elim h
  | ok fl =>
    cases fl with
    | ret u => exact h
    | next => exact False.elim h
    | brk => exact False.elim h
    | cont => exact False.elim h
section
variable {X : Cx} {k j : Nat} {x : Str} {sp : Sp} {p pos : Pos} {e : Expr} {es : List Expr} {t : TA} {E : St → XK}
/-- a call that lets no error out -/
theorem pe_cc (c : Cal X.prog X.w X.K X.mg X.base k x sp) (hr : Room j X.A) (hk : k ≤ j) (hg : Gl X x) (ha : PA X (e :: es) t)
    (hdb : (x == ("__debug__" : Str)) = false := by decide) (he : starEach (e :: es) X.env = (false, eval e X.env) :: starEach es X.env := by rfl) (hpl : (backTo pos (starEach es X.env)).any (·.1) = false := by rfl) :
    PE X (.Call (.Name x p) (e :: es) [] pos) (tCall sp [] E0 t) := by
  obtain ⟨f, fd, ps, F, hm, kp, b⟩ := c.ex
  exact pe_call F (hr.mono hk) hg hm kp b .nil passL ha hdb he hpl
/-- a call whose error is wished for -/
theorem pe_cs (c : Cal X.prog X.w X.K X.mg X.base k x sp) (hr : Room j X.A) (hk : k ≤ j) (hg : Gl X x) (hx : ∀ σ, PassesAt (L2.CX X.prog X.w) X σ (E σ)) (ha : PA X (e :: es) t)
    (hdb : (x == ("__debug__" : Str)) = false := by decide) (he : starEach (e :: es) X.env = (false, eval e X.env) :: starEach es X.env := by rfl) (hpl : (backTo pos (starEach es X.env)).any (·.1) = false := by rfl) :
    PE X (.Call (.Name x p) (e :: es) [] pos) (tCallS sp E t) := by
  obtain ⟨f, fd, ps, F, hm, kp, b⟩ := c.ex
  exact pe_callS F (hr.mono hk) hg hm kp b hx ha hdb he hpl
theorem pe_cc0 (c : Cal X.prog X.w X.K X.mg X.base k x sp) (hr : Room j X.A) (hk : k ≤ j) (hg : Gl X x) (hdb : (x == ("__debug__" : Str)) = false := by decide) : PE X (.Call (.Name x p) [] [] pos) (tCall sp [] E0 tNil) := by
  obtain ⟨f, fd, ps, F, hm, kp, b⟩ := c.ex
  exact pe_call0 F (hr.mono hk) hg hm kp b .nil passL hdb
end
def tWord (t u : TS) : TS := fun D σ H => ∃ M : L2.St → Hp → Prop, t { D with nx := M } σ H ∧ ∀ σ' H', M σ' H' → u D σ' H'
theorem pss_word {X : Cx} {st : Stmt} {more : List Stmt} {t u : TS} (h1 : PS X st t) (h2 : PSs X more u) : PSs X (st :: more) (tWord t u) := by
  constructor
  intro pins s σ H D I h
  obtain ⟨M, hm, hu⟩ := h
  refine wpAny_execs_cons (thn (h1.run pins s σ H { D with nx := M } I hm) fun f s1 q => ?_)
  cases f with
  | next =>
    obtain ⟨σ', H', I', q'⟩ := q
    exact h2.run pins s1 σ' H' D I' (hu σ' H' q')
  | ret v => exact q
  | brk => exact q
  | cont => exact q
theorem x_callS {sp : Sp} {E : L2.St → XK} {tr : TA} {σ : L2.St} {H : Hp} {Q : VK} (h : tr σ H fun vs H1 => sp vs H1 Q (E σ)) : tCallS sp E tr σ H Q := h
/-! ### dicts -/
section
variable {σ : L2.St} {H : Hp} {D : Ends} {Q : VK} {td ty tv tx : TE}
theorem x_dget (h : td σ H fun x H1 => ty σ H1 fun y H2 => ∃ a v, x = V.ref a ∧ DGet H2 a y (some v) ∧ Q v H2) : tDGet td ty σ H Q := h
theorem x_dput (h : tv σ H fun v H1 => td σ H1 fun x H2 => ty σ H2 fun y H3 => ∃ a H4, x = V.ref a ∧ DPut H3 a y v H4 ∧ D.nx σ H4) : sDPut td ty tv D σ H := h
theorem x_dnew (h : ∀ p, H p = none → Q (.ref p) (upd H p (.dK []))) : tDNewK σ H Q := h
theorem x_dget1 (h : td σ H fun x H1 => ∃ a, x = V.ref a ∧ IsD H1 a ∧ ty σ H1 fun y H2 => ∃ o, DGet H2 a y o ∧ Q (o.getD .non) H2) : tDGet1 td ty σ H Q := h
theorem x_dget2 (h : td σ H fun x H1 => ∃ a, x = V.ref a ∧ IsD H1 a ∧ ty σ H1 fun y H2 => tx σ H2 fun z H3 => ∃ o, DGet H3 a y o ∧ Q (o.getD z) H3) : tDGet2 td ty tx σ H Q := h
end
theorem dget_s {H : Hp} {a : Addr} {kvs : List (Key × V)} {x : Str} {r : Option V} (e : H a = some (.dK kvs)) (h : valV kvs (Sum.inr x : Key) = r) : DGet H a (.str x) r := h ▸ DGet.k (k := Sum.inr x) e
theorem dget_i {H : Hp} {a : Addr} {kvs : List (Key × V)} {i : Int} {r : Option V} (e : H a = some (.dK kvs)) (h : valV kvs (Sum.inl i : Key) = r) : DGet H a (.int i) r := h ▸ DGet.k (k := Sum.inl i) e
theorem dput_s {H : Hp} {a : Addr} {kvs kvs' : List (Key × V)} {x : Str} {v : V} (e : H a = some (.dK kvs)) (hl : kvs.length < 100000) (h : putK kvs (Sum.inr x : Key) v = kvs') : DPut H a (.str x) v (upd H a (.dK kvs')) := h ▸ DPut.k (k := Sum.inr x) e (Nat.lt_of_lt_of_le hl big5)
theorem dput_i {H : Hp} {a : Addr} {kvs kvs' : List (Key × V)} {i : Int} {v : V} (e : H a = some (.dK kvs)) (hl : kvs.length < 100000) (h : putK kvs (Sum.inl i : Key) v = kvs') : DPut H a (.int i) v (upd H a (.dK kvs')) := h ▸ DPut.k (k := Sum.inl i) e (Nat.lt_of_lt_of_le hl big5)
theorem valV_sc {κ : Type} [DecidableEq κ] {k j : κ} {v : V} {r : List (κ × V)} : valV ((k, v) :: r) j = if k = j then some v else valV r j := by
  by_cases e : k = j
  · rw [if_pos e]; exact valV_pos e
  · rw [if_neg e]; exact valV_neg e
/-! ### the law's pen: a dict of the cells, the index of the next one, what is left -/
def penK (l : Addr) (a b : Int) : List (Key × V) := [(Sum.inr "cells", .ref l), (Sum.inr "at", .int a), (Sum.inr "left", .int b)]
theorem key_ne {x y : Str} (h : ¬ x = y) : ¬ ((Sum.inr x : Key) = Sum.inr y) := fun z => h (Sum.inr.inj z)
theorem k_ca : ¬ ((Sum.inr ("cells" : Str) : Key) = Sum.inr ("at" : Str)) := key_ne (by decide +kernel)
theorem k_cl : ¬ ((Sum.inr ("cells" : Str) : Key) = Sum.inr ("left" : Str)) := key_ne (by decide +kernel)
theorem k_al : ¬ ((Sum.inr ("at" : Str) : Key) = Sum.inr ("left" : Str)) := key_ne (by decide +kernel)
theorem pen_cells (l : Addr) (a b : Int) : valV (penK l a b) (Sum.inr "cells" : Key) = some (.ref l) := valV_pos rfl
theorem pen_at (l : Addr) (a b : Int) : valV (penK l a b) (Sum.inr "at" : Key) = some (.int a) := by
  unfold penK
  rw [valV_neg k_ca]
  exact valV_pos rfl
theorem pen_left (l : Addr) (a b : Int) : valV (penK l a b) (Sum.inr "left" : Key) = some (.int b) := by
  unfold penK
  rw [valV_neg k_cl, valV_neg k_al]
  exact valV_pos rfl
theorem pen_put_at (l : Addr) (a b z : Int) : putK (penK l a b) (Sum.inr "at" : Key) (.int z) = penK l z b := by
  have h : ((penK l a b).any fun kv => decide (kv.1 = (Sum.inr "at" : Key))) = true := by rw [valV_any, pen_at]; rfl
  unfold putK
  rw [if_pos h]
  unfold penK
  rw [List.map_cons, List.map_cons, List.map_cons, List.map_nil, if_neg k_ca, if_pos rfl, if_neg (Ne.symm k_al)]
theorem pen_put_left (l : Addr) (a b z : Int) : putK (penK l a b) (Sum.inr "left" : Key) (.int z) = penK l a z := by
  have h : ((penK l a b).any fun kv => decide (kv.1 = (Sum.inr "left" : Key))) = true := by rw [valV_any, pen_left]; rfl
  unfold putK
  rw [if_pos h]
  unfold penK
  rw [List.map_cons, List.map_cons, List.map_cons, List.map_nil, if_neg k_cl, if_neg k_al, if_pos rfl]
/-- a pen at d, its cells ns at l -/
structure PenAt (H : Hp) (d l : Addr) (ns : List Int) (a b : Int) : Prop where
  dc : H d = some (.dK (penK l a b))
  cl : H l = some (.lst (ns.map V.int))
  na : 0 ≤ a
  nb : 0 ≤ b
  len : ns.length ≤ 63
theorem PenAt.ne {H : Hp} {d l : Addr} {ns : List Int} {a b : Int} (p : PenAt H d l ns a b) : l ≠ d := ne_of p.cl p.dc (fun z => by cases z)
theorem PenAt.mono {H H' : Hp} {d l : Addr} {ns : List Int} {a b : Int} (p : PenAt H d l ns a b) (s : Same H H') : PenAt H' d l ns a b := ⟨s _ _ p.dc, s _ _ p.cl, p.na, p.nb, p.len⟩
theorem pen_small (l : Addr) (a b : Int) : (penK l a b).length < 100000 := by show 3 < 100000; decide
theorem PenAt.toAt {H : Hp} {d l : Addr} {ns : List Int} {a b z : Int} (p : PenAt H d l ns a b) (h : 0 ≤ z) : PenAt (upd H d (.dK (penK l z b))) d l ns z b := ⟨upd_same, by rw [upd_ne p.ne]; exact p.cl, h, p.nb, p.len⟩
theorem PenAt.toLeft {H : Hp} {d l : Addr} {ns : List Int} {a b z : Int} (p : PenAt H d l ns a b) (h : 0 ≤ z) : PenAt (upd H d (.dK (penK l a z))) d l ns a z := ⟨upd_same, by rw [upd_ne p.ne]; exact p.cl, p.na, h, p.len⟩
/-- all but the pen at d is as it was -/
def Kept (d : Addr) (H H' : Hp) : Prop := ∀ b o, H b = some o → b ≠ d → H' b = some o
theorem Kept.refl (d : Addr) (H : Hp) : Kept d H H := fun _ _ h _ => h
theorem Kept.trans {d : Addr} {H H1 H2 : Hp} (x : Kept d H H1) (y : Kept d H1 H2) : Kept d H H2 := fun b o h n => y b o (x b o h n) n
theorem Kept.of {d : Addr} {H H1 : Hp} (x : Same H H1) : Kept d H H1 := fun b o h _ => x b o h
theorem Kept.put {d : Addr} {H : Hp} {o : HO} : Kept d H (upd H d o) := fun b u h n => by rw [upd_ne n]; exact h
/-- the pen at d, its cells ns, after at most n draws -/
def Pen (H : Hp) (d : Addr) (ns : List Int) (n : Nat) : Prop := ∃ l a b, PenAt H d l ns a b ∧ a ≤ (n : Int)
theorem Pen.mono {H H' : Hp} {d : Addr} {ns : List Int} {n : Nat} (p : Pen H d ns n) (s : Same H H') : Pen H' d ns n := by
  obtain ⟨l, a, b, p, h⟩ := p
  exact ⟨l, a, b, p.mono s, h⟩
theorem Pen.le {H : Hp} {d : Addr} {ns : List Int} {n m : Nat} (p : Pen H d ns n) (h : n ≤ m) : Pen H d ns m := by
  obtain ⟨l, a, b, p, q⟩ := p
  exact ⟨l, a, b, p, by omega⟩
/-! ### lists and data -/
theorem dp_ints {K : PySem.W.Frag} {H : Hp} {a : Addr} {ns : List Int} (h : SqL K H a (ns.map V.int)) : Dp K H (.ref a) (.list (ns.map PyData.int)) := by
  refine .lst h ?_
  clear h
  induction ns with
  | nil => exact .nil
  | cons n r ih => exact .cons (.int n) ih
theorem eqv_nil (l : List PyData) : PyData.eqv (.list l) (.list []) = l.isEmpty := by
  cases l with
  | nil => rfl
  | cons a r => rfl
theorem lay_ints : ∀ ns : List Int, PyData.canLayAll0 (ns.map PyData.int) = true
  | [] => rfl
  | n :: r => lay_ints r
theorem depth_ints : ∀ ns : List Int, PyData.depthAll (ns.map PyData.int) = 0
  | [] => rfl
  | n :: r => by
    show max 0 (PyData.depthAll (r.map PyData.int)) = 0
    rw [depth_ints r]
    rfl
theorem shaped_ints (ns : List Int) : SeqAt.shaped (.list (ns.map PyData.int)) = true := by
  show (PyData.canLayAll0 (ns.map PyData.int) && decide (PyData.depthAll (ns.map PyData.int) + 1 ≤ 64)) = true
  rw [lay_ints, depth_ints]
  rfl
theorem dp_nil {K : PySem.W.Frag} {H : Hp} {a : Addr} (h : SqL K H a []) : Dp K H (.ref a) (.list []) := .lst h .nil
theorem x_neNil {K : PySem.W.Frag} {H : Hp} {Q : VK} {a b : Addr} {ns : List Int} (h1 : SqL K H a (ns.map V.int)) (h2 : H b = some (.lst [])) (h : Q (.bl (!ns.isEmpty)) H) : rNeD K (.ref a) (.ref b) H Q :=
  ⟨_, _, dp_ints h1, dp_nil (SqL.of h2), shaped_ints ns, by decide +kernel, by rw [eqv_nil, List.isEmpty_map]; exact h⟩
theorem at_mod {α : Type} {xs : List α} {i : Int} (h0 : 0 ≤ i) (h : i < (xs.length : Int)) : ∃ v, atI xs i = some v ∧ v ∈ xs := by
  have hl : i.toNat < xs.length := by omega
  refine ⟨xs[i.toNat], ?_, List.getElem_mem ..⟩
  have e : ((i.toNat : Nat) : Int) = i := by omega
  have q := atI_nat (xs := xs) (j := i.toNat) (v := xs[i.toNat]) (by simp [hl])
  rw [e] at q
  exact q
theorem Kept.seq {K : PySem.W.Frag} {H H' : Hp} {d a : Addr} {xs : List V} {l : Addr} {x y : Int} (k : Kept d H H') (hd : H d = some (.dK (penK l x y))) (h : SqL K H a xs) : SqL K H' a xs := by
  rcases h with (h | ⟨o, h⟩) | h
  · exact .inl (.inl (k _ _ h (ne_of h hd (fun z => by cases z))))
  · exact .inl (.inr ⟨o, k _ _ h (ne_of h hd (fun z => by cases z))⟩)
  · exact .inr h
theorem Pen.seq {K : PySem.W.Frag} {H H' : Hp} {d a : Addr} {xs : List V} {ns : List Int} {n : Nat} (k : Kept d H H') (p : Pen H d ns n) (h : SqL K H a xs) : SqL K H' a xs := by
  obtain ⟨l, x, y, p, _⟩ := p
  exact k.seq p.dc h
theorem x_ixSeqL {K : PySem.W.Frag} {H : Hp} {Q : VK} {a : Addr} {xs : List V} {i : Int} {v : V} (hs : SqL K H a xs) (ha : atI xs i = some v) (h : Q v H) : rIx K (.ref a) (.int i) H Q := .inl (x_ixL hs ha h)
theorem x_ixSeqS {K : PySem.W.Frag} {H : Hp} {Q : VK} {z : Str} {i : Int} {c : Nat} (hz : z.length ≤ sizeLine) (ha : atI z.cps.toList i = some c) (h : Q (.str ⟨#[c]⟩) H) : rIx K (.str z) (.int i) H Q := .inr (.inr ⟨z, i, c, rfl, rfl, hz, ha, h⟩)
section
variable {D : Ends}
theorem x_make {C : Addr} {sp : Sp} {E : XK} {t : TA} {σ : L2.St} {H : Hp} {Q : VK} (h : t σ H fun vs H1 => ∀ x dx, H1 x = none → H1 dx = none → dx ≠ x → sp (.ref x :: (vs ++ [])) (upd (upd H1 dx (.own x)) x (.ins C dx [])) (fun v H2 => v = .non ∧ Q (.ref x) H2) E) : tMake C sp [] E t σ H Q := h
theorem x_sfld {K : PySem.W.Frag} {ta tv : TE} {f : Str} {σ : L2.St} {H : Hp} {D : Ends} (h : tv σ H fun y H1 => ta σ H1 fun x H2 => ∃ a C dx fs, x = .ref a ∧ H2 a = some (.ins C dx fs) ∧ Cls K C ∧ NoAttr K C f ∧ fs.length < 1000 ∧ D.nx σ (upd H2 a (.ins C dx (putF f y fs)))) : sFld K ta tv f D σ H := h
end
theorem x_rngC {z : Int} {σ : L2.St} {H : Hp} {R : It → Hp → Prop} (h1 : -4611686018427387904 ≤ z) (h2 : z < 4611686018427387904) (h : R (Itr 0 z.toNat) H) : iRng1 (tCons (tC (.int z)) tNil) σ H R := ⟨z, rfl, h1, h2, h⟩
theorem x_rngO {te : TE} {σ : L2.St} {H : Hp} {R : It → Hp → Prop} (h : tCons te tNil σ H fun vs H1 => ∃ j : Int, vs = [.int j] ∧ -(2 ^ 62) ≤ j ∧ j < 2 ^ 62 ∧ R (Itr 0 j.toNat) H1) : iRng1 (tCons te tNil) σ H R := h
theorem x_cT {b : Bool} {A B : Prop} (e : b = true) (h : A) : if b = true then A else B := by rw [if_pos e]; exact h
theorem x_cF {b : Bool} {A B : Prop} (e : b = false) (h : B) : if b = true then A else B := by rw [e, if_neg Bool.false_ne_true]; exact h
theorem x_inL {K : PySem.W.Frag} {p : Addr} {xs : List V} {x : V} {H : Hp} {Q : VK} (hs : SqL K H p xs) (fx : flatV x = true) (fs : xs.all flatV = true) (h : Q (.bl (inV x xs)) H) : rIn K false x (.ref p) H Q := ⟨p, xs, rfl, .inl hs, fx, fs, h⟩
/-- a wish that a walk leaves closed -/
structure Hold (p : Prop) : Prop where
  h : p
/-! ### texts -/
theorem parts_len : ∀ (S L : List Nat) (k : Nat) (acc : List Nat), (TL.spl S k acc L).length ≤ L.length + 1
  | S, [], k, acc => by rw [TL.spl_nil]; simp
  | S, c :: r, 0, acc => by
    by_cases h : TL.pre S (c :: r) = true
    · rw [TL.spl_hit h]
      have := parts_len S r (S.length - 1) []
      simp only [List.length_cons]
      omega
    · rw [TL.spl_miss (by simpa using h)]
      have := parts_len S r 0 (acc ++ [c])
      simp only [List.length_cons]
      omega
  | S, c :: r, k + 1, acc => by
    have := parts_len S r k acc
    have e : TL.spl S (k + 1) acc (c :: r) = TL.spl S k acc r := rfl
    rw [e]
    simp only [List.length_cons]
    omega
theorem split_len (x y : Str) (hy : TL.tl y ≠ []) (h : y.cps.all (· < 256) = true) : (PySem.Txt.split x y).length ≤ x.length + 1 := by
  have e := TL.split_spl x y hy (TL.kind_ok h)
  have l := congrArg List.length e
  rw [List.length_map] at l
  rw [l, TL.len_tl]
  exact parts_len _ _ _ _
end MP
namespace MP
open PySem L2
def topS (i : Nat) : Stmt := PySem.Challenge.pw_modeplaces_k10_errors.main.body.getD i (.Pass ⟨0, 0, 0, 0⟩)
end MP
open PySem L2 MPX MP
local macro_rules | `(tactic| walk_at "rd1") => `(tactic| first
  | with_reducible refine x_seq ?_
  | with_reducible refine x_next ?_
  | with_reducible refine x_ret ?_
  | with_reducible refine x_retN ?_
  | with_reducible refine x_ifs ?_
  | with_reducible refine x_asg ?_
  | with_reducible refine x_drop ?_
  | with_reducible refine x_name ?_
  | ((with_reducible refine' x_var ?vv ?_); (case vv => exact rfl))
  | with_reducible refine x_c ?_
  | with_reducible refine x_op ?_
  | with_reducible refine x_un ?_
  | with_reducible refine x_test ?_
  | with_reducible refine x_tB ?_
  | with_reducible refine x_and ?_
  | with_reducible refine x_or ?_
  | with_reducible refine x_not ?_
  | with_reducible refine x_andV ?_
  | with_reducible refine x_orV ?_
  | with_reducible refine x_notV ?_
  | with_reducible refine x_if ?_
  | with_reducible refine x_nil ?_
  | with_reducible refine x_cons ?_
  | with_reducible refine x_tup ?_
  | with_reducible refine x_lst ?_
  | with_reducible refine x_cb ?_
  | with_reducible refine x_call ?_
  | with_reducible refine x_callS ?_
  | with_reducible refine x_callP ?_
  | with_reducible refine x_mk0 ?_
  | with_reducible refine x_mk1 ?_
  | with_reducible refine x_mk2 ?_
  | with_reducible refine x_make ?_
  | with_reducible refine x_sfld ?_
  | with_reducible refine x_m0 ?_
  | with_reducible refine x_m1 ?_
  | with_reducible refine x_bm0 ?_
  | with_reducible refine x_bm ?_
  | with_reducible refine x_par ?_
  | with_reducible refine x_ilist ?_
  | with_reducible refine x_itup ?_
  | with_reducible refine x_istr ?_
  | ((with_reducible show tLc _ _ _ _ _ _ _ _); unfold tLc)
  | ((with_reducible show tFor _ _ _ _ _ _); unfold tFor)
  | ((with_reducible refine' x_eq ?vv ?_); (case vv => exact rfl))
  | ((with_reducible refine' x_ne ?vv ?_); (case vv => exact rfl))
  | with_reducible refine x_rI0 ?_
  | with_reducible refine x_dget ?_
  | with_reducible refine x_dput ?_
  | with_reducible refine x_dnew ?_
  | with_reducible refine x_dget1 ?_
  | with_reducible refine x_dget2 ?_
  | with_reducible refine x_sl ?_
  | with_reducible refine x_nopart ?_
  | with_reducible refine x_part ?_
  | ((with_reducible refine' x_slL ?vv ?_); (case vv => (with_reducible assumption)))
  | with_reducible refine x_disp ?_
  | with_reducible refine x_pcons ?_
  | with_reducible refine x_pnil ?_
  | ((with_reducible refine' x_mod ?vv ?_); (case vv => omega); intro r er hr0 hr1; (try clear er))
  | ((with_reducible refine' x_rI ?vv ?_); (case vv => walk_at "sc"))
  | (with_reducible refine Or.inl (Exists.intro _ (And.intro rfl ?_)))
  | with_reducible refine x_T ?_
  | with_reducible refine x_F ?_
  | with_reducible apply Exists.intro
  | refine And.intro rfl ?_
  | ((with_reducible refine And.intro ?vv ?_); (case vv => (first | (with_reducible assumption) | (show _ ≤ sizeLine; decide) | exact len_ok rfl)))
  | (refine And.intro (Exists.intro _ rfl) ?_))
local macro_rules | `(tactic| walk_at "sc") => `(tactic| first
  | (with_reducible assumption)
  | exact divW (by omega) (by omega)
  | exact mulW (by omega) (by omega)
  | exact Or.inl ⟨by omega, by omega⟩
  | exact Or.inr ⟨by omega, by omega⟩
  | (show (_ : Int) ≠ 0; omega)
  | exact ⟨by decide, by decide, by decide⟩
  | decide)
local macro_rules | `(tactic| walk_at "rd") => `(tactic| repeat walk_at "rd1")
namespace MP
open PySem L2
section
variable {P : Program} {w : World} {K : PySem.W.Frag} {mg : Str → Option Value} {base : Heap}
abbrev s__law_pen : Stmt := topS 21
abbrev N__law_pen : List Str := ["_law_script"]
abbrev P__law_pen : List Str := ["_law_script"]
theorem sc__law_pen : FnScope N__law_pen P__law_pen (defScope s__law_pen) := ⟨rfl, rfl, rfl, by decide +kernel, rfl, by decide +kernel, by decide +kernel⟩
abbrev s__law_draw : Stmt := topS 22
abbrev N__law_draw : List Str := ["_law_pen_here", "_law_many", "_law_digit", "_law_at", "_law_cell", "_law_mixed"]
abbrev P__law_draw : List Str := ["_law_pen_here", "_law_many"]
theorem sc__law_draw : FnScope N__law_draw P__law_draw (defScope s__law_draw) := ⟨rfl, rfl, rfl, by decide +kernel, rfl, by decide +kernel, by decide +kernel⟩
abbrev s__law_pick : Stmt := topS 23
abbrev N__law_pick : List Str := ["_law_pen_here", "_law_items"]
abbrev P__law_pick : List Str := ["_law_pen_here", "_law_items"]
theorem sc__law_pick : FnScope N__law_pick P__law_pick (defScope s__law_pick) := ⟨rfl, rfl, rfl, by decide +kernel, rfl, by decide +kernel, by decide +kernel⟩
structure PenTxt (mg : Str → Option Value) : Prop where
  b_len : mg "len" = none
  b_int : mg "int" = none
  b_list : mg "list" = none
def sp_pen (K : PySem.W.Frag) : Sp := fun vs H Q _ => ∃ (c : Addr) (ns : List Int), vs = [.ref c] ∧ SqL K H c (ns.map V.int) ∧ ns.length ≤ 63 ∧ ∀ d H', Same H H' → H d = none → Pen H' d ns 0 → Q (.ref d) H'
theorem ok_pen {f : Addr} {fd : FuncData} (F : Fun K "_law_pen" "_law_pen" s__law_pen f fd) (T : PenTxt mg) : FnOk P w K mg base CX0 1 f fd P__law_pen (sp_pen K) := by
  refine F.ok sc__law_pen (fun vs H Q E h => ?_) (fun cdv A outer s H vs Q E hr h => ?_)
  · obtain ⟨c, ns, rfl, _⟩ := h
    rfl
  · obtain ⟨c, ns, rfl, hc, hn, k⟩ := h
    refine ⟨_, (pss_one (ps_ret (pe_disp (pps_cons pe_str (pe_callTy call_list_of (by rfl) T.b_list (by decide +kernel) (pa_cons (pe_slice sl_list (pv 0) po_none (po_some pe_int)) pa_nil)) (pps_cons pe_str pe_int (pps_cons pe_str pe_int pps_nil))) (by rfl) (by rfl) (fun z => by cases z) (by decide)))), ?_⟩
    show tRet _ _ [some (V.ref c)] H
    dsimp only [cxOf]
    walk_at "rd"
    intro p hp
    have hc1 := (same_upd (o := .dK []) hp).seq hc
    walk_at "rd"
    intro q hq
    walk_at "rd"
    refine And.intro (Or.inl (SqL.of upd_same)) ?_
    intro l hl
    walk_at "rd"
    refine And.intro (upd_new (upd_new upd_same hq) hl) ?_
    refine ⟨[(Sum.inr "cells", .ref l), (Sum.inr "at", .int 0), (Sum.inr "left", .int 0)], rfl, by show 3 ≤ 15; decide, ?_⟩
    have hp1 := (same_upd (o := HO.dK []) hp).free hq
    have sq := (same_upd (o := HO.dK []) hp).trans (same_upd (o := HO.lst (cutV (ns.map V.int) none (some 63))) hq)
    have hql : l ≠ p := (ne_of_none upd_same (same_upd hq |>.free hl)).symm
    have e1 : cutV (ns.map V.int) none (some 63) = ns.map V.int := by
      unfold cutV
      have h0 : HT.sIx (ns.map V.int).length 0 none = 0 := rfl
      have h1 : HT.sIx (ns.map V.int).length (ns.map V.int).length (some 63) = (ns.map V.int).length := by
        rw [show (63 : Int) = ((63 : Nat) : Int) from rfl, HT.sIx_nat, List.length_map]
        omega
      rw [h0, h1]
      simp only [List.drop_zero, Nat.sub_zero]
      exact List.take_length
    refine k p _ ?_ hp ⟨l, 0, 0, ⟨upd_same, ?_, Int.le_refl 0, Int.le_refl 0, hn⟩, by simp⟩
    · intro b o hb
      rw [upd_ne (ne_of_none hb hp)]
      exact upd_new (sq _ _ hb) hl
    · rw [upd_ne hql, upd_same, e1]
def sp_draw : Sp := fun vs H Q _ => ∃ (d : Addr) (many : Int) (ns : List Int) (n : Nat), vs = [.ref d, .int many] ∧ Pen H d ns n ∧ n < 1000000000 ∧ 0 < many ∧ many < 1000000000 ∧ ∀ z H', 0 ≤ z → z < many → Kept d H H' → Pen H' d ns (n + 1) → Q (.int z) H'
theorem ok_draw {f : Addr} {fd : FuncData} (F : Fun K "_law_draw" "_law_draw" s__law_draw f fd) (T : PenTxt mg) : FnOk P w K mg base CX0 1 f fd P__law_draw sp_draw := by
  refine F.ok sc__law_draw (fun vs H Q E h => ?_) (fun cdv A outer s H vs Q E hr h => ?_)
  · obtain ⟨d, many, ns, n, rfl, _⟩ := h
    rfl
  · obtain ⟨d, many, ns, n, rfl, ⟨l, a, b, p, ha⟩, hn, hm, hm2, k⟩ := h
    have hu := hu_of hr
    refine ⟨_, (pss_cons (ps_if (pt_cmpR op_ge (pe_dget hu (pv 0) pe_str (fun _ _ => rfl)) (pv 1) (nomark _)) (pss_cons (ps_set (i := 2) sc__law_draw.nd rfl (Or.inl rfl) (pe_op op_modN (pe_callTy call_int1 (by rfl) T.b_int (by decide +kernel) (pa_cons (pe_dget hu (pv 0) pe_str (fun _ _ => rfl)) pa_nil)) (pv 1)))
      (pss_cons (ps_dput hu (pv 0) pe_str (pe_op op_fdivW (pe_dget hu (pv 0) pe_str (fun _ _ => rfl)) (pv 1)) rfl)
      (pss_one (ps_ret (pv 2))))) pss_nil)
      (pss_cons (ps_set (i := 3) sc__law_draw.nd rfl (Or.inl rfl) (pe_dget hu (pv 0) pe_str (fun _ _ => rfl)))
      (pss_cons (ps_dput hu (pv 0) pe_str (pe_op op_add (pv 3) pe_int) rfl)
      (pss_cons (ps_set (i := 4) sc__law_draw.nd rfl (Or.inl rfl) (pe_op op_add (pe_op op_mulW pe_int (pv 3)) pe_int))
      (pss_word (ps_if (pt_cmpR (op_neD hr.units) (pe_dget hu (pv 0) pe_str (fun _ _ => rfl)) (pe_lst pa_nil) (nomark _)) (pss_one (ps_set (i := 4) sc__law_draw.nd rfl (Or.inl rfl) (pe_ix ix_list (pe_dget hu (pv 0) pe_str (fun _ _ => rfl)) (pe_op op_modN (pe_callTy call_int1 (by rfl) T.b_int (by decide +kernel) (pa_cons (pv 3) pa_nil)) (pe_callB call_len_seq (by rfl) T.b_len (by decide +kernel) (pa_cons (pe_dget hu (pv 0) pe_str (fun _ _ => rfl)) pa_nil))) (fun _ _ => rfl)))) pss_nil)
      (pss_cons (ps_if (PW.pt (pw_and (pt_cmpR op_lt (pv 3) (pe_callB call_len_seq (by rfl) T.b_len (by decide +kernel) (pa_cons (pe_dget hu (pv 0) pe_str (fun _ _ => rfl)) pa_nil)) (nomark _)) (pw_and1 (pt_cmpR op_ge (pv 4) (pe_op op_pow pe_int pe_int) (nomark _))))) (pss_cons (ps_dput hu (pv 0) pe_str (pe_op op_fdivW (pe_op op_sub (pv 4) (pe_op op_pow pe_int pe_int)) (pv 1)) rfl)
      (pss_one (ps_ret (pe_op op_modN (pe_callTy call_int1 (by rfl) T.b_int (by decide +kernel) (pa_cons (pe_op op_sub (pv 4) (pe_op op_pow pe_int pe_int)) pa_nil)) (pv 1))))) pss_nil)
      (pss_cons (ps_set (i := 5) sc__law_draw.nd rfl (Or.inl rfl) (pe_op op_add (pe_op op_add (pe_op op_add (pe_op op_mulW (pe_op op_modN (pe_callTy call_int1 (by rfl) T.b_int (by decide +kernel) (pa_cons (pv 4) pa_nil)) pe_int) pe_int) (pe_op op_mulW (pe_op op_mulW pe_int (pv 3)) (pv 3))) (pe_op op_mulW pe_int (pv 3))) pe_int))
      (pss_cons (ps_set (i := 5) sc__law_draw.nd rfl (Or.inl rfl) (pe_op op_modN (pe_callTy call_int1 (by rfl) T.b_int (by decide +kernel) (pa_cons (pv 5) pa_nil)) pe_int))
      (pss_cons (ps_set (i := 5) sc__law_draw.nd rfl (Or.inl rfl) (pe_op op_modN (pe_callTy call_int1 (by rfl) T.b_int (by decide +kernel) (pa_cons (pe_op op_mulW (pv 5) (pe_op op_add (pv 5) pe_int)) pa_nil)) pe_int))
      (pss_one (ps_ret (pe_op op_modN (pe_callTy call_int1 (by rfl) T.b_int (by decide +kernel) (pa_cons (pe_op op_fdivW (pe_op op_modN (pe_callTy call_int1 (by rfl) T.b_int (by decide +kernel) (pa_cons (pe_op op_mulW (pv 5) (pv 5)) pa_nil)) pe_int) pe_int) pa_nil)) (pv 1))))))))))))), ?_⟩
    show tSeq _ _ _ [some (V.ref d), some (V.int many), none, none, none, none] H
    dsimp only [cxOf]
    have g1 := dget_s p.dc (pen_cells l a b)
    have g2 := dget_s p.dc (pen_at l a b)
    have g3 := dget_s p.dc (pen_left l a b)
    walk_at "rd"
    refine x_D (fun hle => ?_) (fun hle => ?_)
    · walk_at "rd"
      refine And.intro (dput_s p.dc (pen_small l a b) (pen_put_left l a b _)) ?_
      walk_at "rd"
      exact k _ _ (by assumption) (by assumption) Kept.put ⟨l, a, _, p.toLeft (Int.ediv_nonneg p.nb (by omega)), by omega⟩
    · walk_at "rd"
      refine And.intro (dput_s p.dc (pen_small l a b) (pen_put_at l a b _)) ?_
      have p1 := p.toAt (z := a + 1) (by have := p.na; omega)
      have g1 := dget_s p1.dc (pen_cells l (a + 1) b)
      have g2 := dget_s p1.dc (pen_at l (a + 1) b)
      have g3 := dget_s p1.dc (pen_left l (a + 1) b)
      have hna := p.na
      walk_at "rd"
      refine ⟨fun σ' H' => ∃ c : Int, σ' = [some (V.ref d), some (V.int many), none, some (V.int a), some (V.int c), none] ∧ PenAt H' d l ns (a + 1) b ∧ Kept d H H', ?_, ?_⟩
      · walk_at "rd"
        intro q hq
        have p2 := p1.mono (same_upd (o := .lst []) hq)
        have g1 := dget_s p2.dc (pen_cells l (a + 1) b)
        have g2 := dget_s p2.dc (pen_at l (a + 1) b)
        have kp : Kept d H (upd (upd H d (.dK (penK l (a + 1) b))) q (.lst [])) := Kept.put.trans (Kept.of (same_upd hq))
        refine x_neNil (SqL.of (upd_new p1.cl hq)) upd_same ?_
        walk_at "rd"
        refine x_NB (fun hne => ?_) (fun hne => ?_)
        · have hl0 : 0 < ns.length := by
            cases ns with
            | nil => cases hne
            | cons x r => simp
          have hl1 : 0 < (ns.map V.int).length := by rw [List.length_map]; exact hl0
          walk_at "rd"
          refine ⟨Or.inl (SqL.of p2.cl), ?_⟩
          refine x_mod (by omega) (fun r _ hr0 hr1 => ?_)
          obtain ⟨v, hv, hmem⟩ := at_mod hr0 hr1
          obtain ⟨z, _, rfl⟩ := List.mem_map.mp hmem
          refine x_ixL (SqL.of p2.cl) hv ?_
          exact ⟨z, rfl, p2, kp⟩
        · exact ⟨41 * a + 23, rfl, p2, kp⟩
      · rintro σ' H' ⟨c, rfl, p2, kp⟩
        have g1 := dget_s p2.dc (pen_cells l (a + 1) b)
        have g3 := dget_s p2.dc (pen_left l (a + 1) b)
        have done : ∀ z : Int, 0 ≤ z → z < many → Q (V.int z) H' := fun z h0 h1 => k z H' h0 h1 kp ⟨l, a + 1, b, p2, by omega⟩
        walk_at "rd"
        refine ⟨Or.inl (SqL.of p2.cl), ?_⟩
        walk_at "rd"
        refine x_B (fun hlt => ?_) (fun hlt => ?_)
        · walk_at "rd"
          refine x_D (fun hle => ?_) (fun hle => ?_)
          · walk_at "rd"
            refine And.intro (dput_s p2.dc (pen_small l _ b) (pen_put_left l _ b _)) ?_
            have p3 := p2.toLeft (z := (c - 10 ^ (18 : Int).toNat) / many) (Int.ediv_nonneg (Int.sub_nonneg_of_le hle) (by omega))
            walk_at "rd"
            exact k _ _ (by assumption) (by assumption) (kp.trans Kept.put) ⟨l, a + 1, _, p3, by omega⟩
          · walk_at "rd"
            exact done _ (by assumption) (by assumption)
        · walk_at "rd"
          exact done _ (by assumption) (by assumption)
def sp_pick (K : PySem.W.Frag) : Sp := fun vs H Q _ => ∃ (d a : Addr) (xs : List V) (ns : List Int) (n : Nat), vs = [.ref d, .ref a] ∧ Pen H d ns n ∧ n < 1000000000 ∧ SqL K H a xs ∧ 0 < xs.length ∧ xs.length < 1000000000 ∧
  ∀ v H', v ∈ xs → Kept d H H' → Pen H' d ns (n + 1) → Q v H'
theorem ok_pick {f : Addr} {fd : FuncData} (F : Fun K "_law_pick" "_law_pick" s__law_pick f fd) (T : PenTxt mg) (c__law_draw : Cal P w K mg base 1 "_law_draw" sp_draw) : FnOk P w K mg base (L2.CX P w) 2 f fd P__law_pick (sp_pick K) := by
  refine F.okX sc__law_pick (fun vs H Q E h => ?_) (fun cdv A outer s H vs Q E hr h => ?_)
  · obtain ⟨d, a, xs, ns, n, rfl, _⟩ := h
    rfl
  · obtain ⟨d, a, xs, ns, n, rfl, p, hn, hs, h0, h1, k⟩ := h
    refine ⟨_, (pss_one (ps_ret (pe_ix ix_seq (pv 1) (pe_cc c__law_draw hr (by decide) rfl (pa_cons (pv 0) (pa_cons (pe_callB call_len (by rfl) T.b_len (by decide +kernel) (pa_cons (pv 1) pa_nil)) pa_nil))) (fun _ _ => rfl)))), ?_⟩
    show tRet _ _ [some (V.ref d), some (V.ref a)] H
    dsimp only [cxOf]
    walk_at "rd"
    refine And.intro (Or.inl ⟨_, hs, rfl⟩) ?_
    refine ⟨d, xs.length, ns, n, rfl, p, hn, by omega, by omega, fun z H' hz0 hz1 kp p' => ?_⟩
    obtain ⟨v, hv, hm⟩ := at_mod hz0 hz1
    exact x_ixSeqL (Pen.seq kp p hs) hv (k v H' hm kp p')
end
end MP
namespace MP
open PySem L2 MPX
/-- what the top holds of the classes, cl k the k-th error's -/
structure ErrTxt (P : Program) (K : PySem.W.Frag) (mg : Str → Option Value) (cl : Nat → Addr) (CM : Addr) : Prop where
  e_BadText : Exc1 P K mg "BadText" (cl 0) "line"
  e_TooMany : Exc1 P K mg "TooMany" (cl 1) "what"
  e_NotRun : Exc1 P K mg "NotRun" (cl 2) "index"
  e_NotComplete : Exc0 P K mg "NotComplete" (cl 3)
  e_NoRun : Exc0 P K mg "NoRun" (cl 4)
  e_BadMode : Exc1 P K mg "BadMode" (cl 5) "mode"
  e_BadLine : Exc1 P K mg "BadLine" (cl 6) "line"
  e_BadValue : Exc1 P K mg "BadValue" (cl 7) "line"
  e_WrongMode : Exc2 P K mg "WrongMode" (cl 8) "index" "value"
  e_NoStretch : Exc0 P K mg "NoStretch" (cl 9)
  e_Unlike : Exc0 P K mg "Unlike" (cl 10)
  e_NoBest : Exc1 P K mg "NoBest" (cl 11) "paper"
  e_Refused : Exc1 P K mg "Refused" (cl 12) "mode"
  e_NoGuard : Exc1 P K mg "NoGuard" (cl 13) "mode"
  e_NothingLeft : Exc0 P K mg "NothingLeft" (cl 14)
  xc : ∀ k, k < 15 → ExcC K (cl k)
  xf : ∀ k, k < 15 → XfC K (cl k)
  kit : ∀ i j, i < 15 → j < 15 → PySem.W.kitOne K (.ref (cl i)) (.ref (cl j)) = some (decide (j = i))
  kitV : ∀ i, i < 15 → PySem.W.kitOne K (.ref (cl i)) (.type "ValueError") = some true
  exm : ∀ i, i < 15 → PySem.W.exmOne K (.ref (cl i)) (.ref CM) = some true
  g_ModeError : mg "ModeError" = some (.ref CM)
  xn : ∀ k, k < 15 → ∀ n ∈ (["line", "mode", "what", "index", "value", "paper"] : List Str), PySem.W.findIn K (.ref (cl k)) n = some none
  b_isinstance : mg "isinstance" = none
  b_ValueError : mg "ValueError" = none
/-- the fields of the error number k -/
def flds (k : Nat) (a : Int) (b : Str) (c : V) : List (Str × V) :=
  if k = 0 then [("line", .int a)] else if k = 1 then [("what", .str (if b = ("ink" : Str) then ("characters" : Str) else ("lines" : Str)))] else if k = 2 then [("index", .int a)] else if k = 3 then [] else if k = 4 then [] else if k = 5 then [("mode", .str b)] else
  if k = 6 then [("line", .int a)] else if k = 7 then [("line", .int a)] else if k = 8 then [("value", .str b), ("index", .int a)] else if k = 9 then [] else if k = 10 then [] else if k = 11 then [("paper", c)] else if k = 12 then [("mode", .str b)] else if k = 13 then [("mode", .str b)] else []
section
variable {P : Program} {w : World} {K : PySem.W.Frag} {mg : Str → Option Value} {base : Heap} {cl : Nat → Addr} {CM : Addr}
abbrev s__law_raised : Stmt := topS 24
abbrev N__law_raised : List Str := ["_law_k", "_law_a", "_law_b", "_law_c"]
abbrev P__law_raised : List Str := ["_law_k", "_law_a", "_law_b", "_law_c"]
theorem sc__law_raised : FnScope N__law_raised P__law_raised (defScope s__law_raised) := ⟨rfl, rfl, rfl, by decide +kernel, rfl, by decide +kernel, by decide +kernel⟩
def sp_raised (cl : Nat → Addr) : Sp := fun vs H Q E => ∃ (k : Nat) (a : Int) (b : Str) (c : V), vs = [.int k, .int a, .str b, c] ∧ k < 15 ∧ ∀ d H', Same H H' → DOk d (flds k a b c) H' → E (.ref (cl k)) d H'
theorem ok_raised {f : Addr} {fd : FuncData} (F : Fun K "_law_raised" "_law_raised" s__law_raised f fd) (T : ErrTxt P K mg cl CM) : FnOk P w K mg base (L2.CX P w) 3 f fd P__law_raised (sp_raised cl) := by
  refine F.okX sc__law_raised (fun vs H Q E h => ?_) (fun cdv A outer s H vs Q E hr h => ?_)
  · obtain ⟨k, a, b, c, rfl, _⟩ := h
    rfl
  · obtain ⟨k, a, b, c, rfl, hk, q⟩ := h
    refine ⟨_, (pss_cons (ps_if (pt_cmpR op_eq (pv 0) pe_int (nomark _)) (pss_one (ps_raise rfl (takes_of rfl rfl rfl rfl) (pmk_x1 T.e_BadText hr (pa_cons (pv 1) pa_nil) rfl))) pss_nil)
      (pss_cons (ps_if (pt_cmpR op_eq (pv 0) pe_int (nomark _)) (pss_one (ps_raise rfl (takes_of rfl rfl rfl rfl) (pmk_x1 T.e_TooMany hr (pa_cons (pe_ifExp (pt_cmpR op_eq (pv 2) pe_str (nomark _)) pe_str pe_str) pa_nil) rfl))) pss_nil)
      (pss_cons (ps_if (pt_cmpR op_eq (pv 0) pe_int (nomark _)) (pss_one (ps_raise rfl (takes_of rfl rfl rfl rfl) (pmk_x1 T.e_NotRun hr (pa_cons (pv 1) pa_nil) rfl))) pss_nil)
      (pss_cons (ps_if (pt_cmpR op_eq (pv 0) pe_int (nomark _)) (pss_one (ps_raise rfl (takes_of rfl rfl rfl rfl) (pmk_x0 T.e_NotComplete hr rfl))) pss_nil)
      (pss_cons (ps_if (pt_cmpR op_eq (pv 0) pe_int (nomark _)) (pss_one (ps_raise rfl (takes_of rfl rfl rfl rfl) (pmk_x0 T.e_NoRun hr rfl))) pss_nil)
      (pss_cons (ps_if (pt_cmpR op_eq (pv 0) pe_int (nomark _)) (pss_one (ps_raise rfl (takes_of rfl rfl rfl rfl) (pmk_x1 T.e_BadMode hr (pa_cons (pv 2) pa_nil) rfl))) pss_nil)
      (pss_cons (ps_if (pt_cmpR op_eq (pv 0) pe_int (nomark _)) (pss_one (ps_raise rfl (takes_of rfl rfl rfl rfl) (pmk_x1 T.e_BadLine hr (pa_cons (pv 1) pa_nil) rfl))) pss_nil)
      (pss_cons (ps_if (pt_cmpR op_eq (pv 0) pe_int (nomark _)) (pss_one (ps_raise rfl (takes_of rfl rfl rfl rfl) (pmk_x1 T.e_BadValue hr (pa_cons (pv 1) pa_nil) rfl))) pss_nil)
      (pss_cons (ps_if (pt_cmpR op_eq (pv 0) pe_int (nomark _)) (pss_one (ps_raise rfl (takes_of rfl rfl rfl rfl) (pmk_x2 T.e_WrongMode hr (pa_cons (pv 1) (pa_cons (pv 2) pa_nil)) rfl))) pss_nil)
      (pss_cons (ps_if (pt_cmpR op_eq (pv 0) pe_int (nomark _)) (pss_one (ps_raise rfl (takes_of rfl rfl rfl rfl) (pmk_x0 T.e_NoStretch hr rfl))) pss_nil)
      (pss_cons (ps_if (pt_cmpR op_eq (pv 0) pe_int (nomark _)) (pss_one (ps_raise rfl (takes_of rfl rfl rfl rfl) (pmk_x0 T.e_Unlike hr rfl))) pss_nil)
      (pss_cons (ps_if (pt_cmpR op_eq (pv 0) pe_int (nomark _)) (pss_one (ps_raise rfl (takes_of rfl rfl rfl rfl) (pmk_x1 T.e_NoBest hr (pa_cons (pv 3) pa_nil) rfl))) pss_nil)
      (pss_cons (ps_if (pt_cmpR op_eq (pv 0) pe_int (nomark _)) (pss_one (ps_raise rfl (takes_of rfl rfl rfl rfl) (pmk_x1 T.e_Refused hr (pa_cons (pv 2) pa_nil) rfl))) pss_nil)
      (pss_cons (ps_if (pt_cmpR op_eq (pv 0) pe_int (nomark _)) (pss_one (ps_raise rfl (takes_of rfl rfl rfl rfl) (pmk_x1 T.e_NoGuard hr (pa_cons (pv 2) pa_nil) rfl))) pss_nil)
      (pss_one (ps_raise rfl (takes_of rfl rfl rfl rfl) (pmk_x0 T.e_NothingLeft hr rfl))))))))))))))))), ?_⟩
    show tSeq _ _ _ [some (V.int k), some (V.int a), some (V.str b), some c] H
    walk_at "rd"
    refine x_D (fun e => ?_) (fun e0 => ?_)
    · obtain rfl : k = 0 := by have := V.int.inj e; omega
      walk_at "rd"
      first
        | exact q _ _ (fun _ _ z => z) rfl
        | (intro d n; exact q _ _ (same_upd n) upd_same)
    walk_at "rd"
    refine x_D (fun e => ?_) (fun e1 => ?_)
    · obtain rfl : k = 1 := by have := V.int.inj e; omega
      walk_at "rd"
      refine x_D (fun eb => ?_) (fun eb => ?_)
      · walk_at "rd"
        intro d n
        refine q _ _ (same_upd n) ?_
        show _ = some (HO.xd [("what", .str (if b = ("ink" : Str) then ("characters" : Str) else ("lines" : Str)))])
        rw [if_pos (V.str.inj eb)]
        exact upd_same
      · walk_at "rd"
        intro d n
        refine q _ _ (same_upd n) ?_
        show _ = some (HO.xd [("what", .str (if b = ("ink" : Str) then ("characters" : Str) else ("lines" : Str)))])
        rw [if_neg fun z => eb (by rw [z])]
        exact upd_same
    walk_at "rd"
    refine x_D (fun e => ?_) (fun e2 => ?_)
    · obtain rfl : k = 2 := by have := V.int.inj e; omega
      walk_at "rd"
      first
        | exact q _ _ (fun _ _ z => z) rfl
        | (intro d n; exact q _ _ (same_upd n) upd_same)
    walk_at "rd"
    refine x_D (fun e => ?_) (fun e3 => ?_)
    · obtain rfl : k = 3 := by have := V.int.inj e; omega
      walk_at "rd"
      first
        | exact q _ _ (fun _ _ z => z) rfl
        | (intro d n; exact q _ _ (same_upd n) upd_same)
    walk_at "rd"
    refine x_D (fun e => ?_) (fun e4 => ?_)
    · obtain rfl : k = 4 := by have := V.int.inj e; omega
      walk_at "rd"
      first
        | exact q _ _ (fun _ _ z => z) rfl
        | (intro d n; exact q _ _ (same_upd n) upd_same)
    walk_at "rd"
    refine x_D (fun e => ?_) (fun e5 => ?_)
    · obtain rfl : k = 5 := by have := V.int.inj e; omega
      walk_at "rd"
      first
        | exact q _ _ (fun _ _ z => z) rfl
        | (intro d n; exact q _ _ (same_upd n) upd_same)
    walk_at "rd"
    refine x_D (fun e => ?_) (fun e6 => ?_)
    · obtain rfl : k = 6 := by have := V.int.inj e; omega
      walk_at "rd"
      first
        | exact q _ _ (fun _ _ z => z) rfl
        | (intro d n; exact q _ _ (same_upd n) upd_same)
    walk_at "rd"
    refine x_D (fun e => ?_) (fun e7 => ?_)
    · obtain rfl : k = 7 := by have := V.int.inj e; omega
      walk_at "rd"
      first
        | exact q _ _ (fun _ _ z => z) rfl
        | (intro d n; exact q _ _ (same_upd n) upd_same)
    walk_at "rd"
    refine x_D (fun e => ?_) (fun e8 => ?_)
    · obtain rfl : k = 8 := by have := V.int.inj e; omega
      walk_at "rd"
      first
        | exact q _ _ (fun _ _ z => z) rfl
        | (intro d n; exact q _ _ (same_upd n) upd_same)
    walk_at "rd"
    refine x_D (fun e => ?_) (fun e9 => ?_)
    · obtain rfl : k = 9 := by have := V.int.inj e; omega
      walk_at "rd"
      first
        | exact q _ _ (fun _ _ z => z) rfl
        | (intro d n; exact q _ _ (same_upd n) upd_same)
    walk_at "rd"
    refine x_D (fun e => ?_) (fun e10 => ?_)
    · obtain rfl : k = 10 := by have := V.int.inj e; omega
      walk_at "rd"
      first
        | exact q _ _ (fun _ _ z => z) rfl
        | (intro d n; exact q _ _ (same_upd n) upd_same)
    walk_at "rd"
    refine x_D (fun e => ?_) (fun e11 => ?_)
    · obtain rfl : k = 11 := by have := V.int.inj e; omega
      walk_at "rd"
      first
        | exact q _ _ (fun _ _ z => z) rfl
        | (intro d n; exact q _ _ (same_upd n) upd_same)
    walk_at "rd"
    refine x_D (fun e => ?_) (fun e12 => ?_)
    · obtain rfl : k = 12 := by have := V.int.inj e; omega
      walk_at "rd"
      first
        | exact q _ _ (fun _ _ z => z) rfl
        | (intro d n; exact q _ _ (same_upd n) upd_same)
    walk_at "rd"
    refine x_D (fun e => ?_) (fun e13 => ?_)
    · obtain rfl : k = 13 := by have := V.int.inj e; omega
      walk_at "rd"
      first
        | exact q _ _ (fun _ _ z => z) rfl
        | (intro d n; exact q _ _ (same_upd n) upd_same)
    walk_at "rd"
    have hk14 : k = 14 := by
      have h0 : ∀ i : Nat, ¬ (V.int (k : Int) = V.int (i : Int)) → k ≠ i := fun i h e => h (by rw [e])
      have := h0 0 e0
      have := h0 1 e1
      have := h0 2 e2
      have := h0 3 e3
      have := h0 4 e4
      have := h0 5 e5
      have := h0 6 e6
      have := h0 7 e7
      have := h0 8 e8
      have := h0 9 e9
      have := h0 10 e10
      have := h0 11 e11
      have := h0 12 e12
      have := h0 13 e13
      omega
    subst hk14
    exact q _ _ (fun _ _ z => z) rfl
end
end MP
namespace MP
open PySem L2 MPX
section
variable {P : Program} {w : World} {K : PySem.W.Frag} {mg : Str → Option Value} {base : Heap} {cl : Nat → Addr} {CM : Addr}
abbrev s__law_kinds : Stmt := topS 25
abbrev N__law_kinds : List Str := ["_law_e", "_law_found"]
abbrev P__law_kinds : List Str := ["_law_e"]
theorem sc__law_kinds : FnScope N__law_kinds P__law_kinds (defScope s__law_kinds) := ⟨rfl, rfl, rfl, by decide +kernel, rfl, by decide +kernel, by decide +kernel⟩
abbrev s__law_fields : Stmt := topS 26
abbrev N__law_fields : List Str := ["_law_k", "_law_e"]
abbrev P__law_fields : List Str := ["_law_k", "_law_e"]
theorem sc__law_fields : FnScope N__law_fields P__law_fields (defScope s__law_fields) := ⟨rfl, rfl, rfl, by decide +kernel, rfl, by decide +kernel, by decide +kernel⟩
abbrev s__law_caught : Stmt := topS 27
abbrev N__law_caught : List Str := ["_law_k", "_law_a", "_law_b", "_law_c", "_law_e"]
abbrev P__law_caught : List Str := ["_law_k", "_law_a", "_law_b", "_law_c"]
theorem sc__law_caught : FnScope N__law_caught P__law_caught (defScope s__law_caught) := ⟨rfl, rfl, rfl, by decide +kernel, rfl, by decide +kernel, by decide +kernel⟩
theorem x_isK {a : Addr} {d : Option Addr} {k j : Nat} {fs : List (Str × V)} {H : Hp} {Q : VK} (T : ErrTxt P K mg cl CM) (hk : k < 15) (hj : j < 15) (hd : DOk d fs H) (h : Q (.bl (decide (j = k))) H) : rIsP K a (.ref (cl k)) d [.ref a, .ref (cl j)] H Q :=
  ⟨cl k, .ref (cl j), .ref (cl j), _, fs, rfl, T.xc k hk, rfl, fun _ r => r, T.kit k j hk hj, hd, h⟩
theorem x_isV {a : Addr} {d : Option Addr} {k : Nat} {fs : List (Str × V)} {H : Hp} {Q : VK} (T : ErrTxt P K mg cl CM) (hk : k < 15) (hd : DOk d fs H) (h : Q (.bl true) H) : rIsP K a (.ref (cl k)) d [.ref a, .ty "ValueError"] H Q :=
  ⟨cl k, _, .type "ValueError", _, fs, rfl, T.xc k hk, rfl, fun _ r => r, T.kitV k hk, hd, h⟩
theorem x_cat {H : Hp} {Q : VK} {l b : Addr} {xs zs : List V} (h1 : H l = some (.lst xs)) (h2 : H b = some (.lst zs)) (hl : xs.length + zs.length ≤ 1000) (h : ∀ p, H p = none → Q (.ref p) (upd H p (.lst (xs ++ zs)))) : rCat (.ref l) (.ref b) H Q :=
  ⟨l, b, xs, zs, rfl, rfl, h1, h2, Nat.le_trans hl (by decide), h⟩
theorem x_catN {H : Hp} {Q : VK} {p1 p2 : Addr} {xs zs : List V} (n : H p2 = none) (h1 : H p1 = some (.lst xs)) (hl : Nat.ble (xs.length + zs.length) 1000 = true) (h : ∀ H' p, Same H H' → H' p = some (.lst (xs ++ zs)) → Q (.ref p) H') : rCat (.ref p1) (.ref p2) (upd H p2 (.lst zs)) Q :=
  x_cat (by rw [upd_ne (ne_of_none h1 n)]; exact h1) upd_same (Nat.le_of_ble_eq_true hl) fun p m => h _ _ ((same_upd n).trans (same_upd m)) upd_same
theorem x_pf {a C : Addr} {d : Option Addr} {fs : List (Str × V)} {v : V} {n : Str} {i : Nat} {σ : L2.St} {H : Hp} {Q : VK} (e : σ[i]? = some (some (.ref a))) (hx : XfC K C) (hn : PySem.W.findIn K (.ref C) n = some none) (hd : DOk d fs H) (hl : fs.lookup n = some v) (h : Q v H) : tPf K a (.ref C) d n (tVar i) σ H Q := by
  cases d with
  | none =>
    have z : fs = [] := hd
    rw [z] at hl
    cases hl
  | some dd => exact ⟨.ref a, e, rfl, C, rfl, hx, hn, dd, fs, v, rfl, hd, hl, h⟩
/-- what the law's list of the fields is -/
def fldV (k : Nat) (a : Int) (b : Str) (c : V) : List V :=
  if k = 0 then [.int a] else if k = 1 then [.str (if b = ("ink" : Str) then ("characters" : Str) else ("lines" : Str))] else if k = 2 then [.int a] else if k = 3 then [] else if k = 4 then [] else if k = 5 then [.str b] else
  if k = 6 then [.int a] else if k = 7 then [.int a] else if k = 8 then [.int a, .str b] else if k = 9 then [] else if k = 10 then [] else if k = 11 then [c] else if k = 12 then [.str b] else if k = 13 then [.str b] else []
/-- what the law's list of the kinds is -/
def kindL (k : Nat) : List V := (List.range 15).map fun j => .bl (decide (j = k))
def spA_kinds (cl : Nat → Addr) (a : Addr) (cls : Value) (d : Option Addr) : Sp := fun vs H Q E => ∃ (k : Nat) (fs : List (Str × V)), k < 15 ∧ cls = .ref (cl k) ∧ DOk d fs H ∧ vs = [.ref a] ∧ ∀ r H', Same H H' → H' r = some (.lst (kindL k)) → Q (.ref r) H'
def sp_kinds (cl : Nat → Addr) (p : Addr × Obj) : Sp := fun vs H Q E => ∃ cls d, ExcIs cls d p ∧ spA_kinds cl p.1 cls d vs H Q E
theorem i__law_kinds {a : Addr} {oe : Obj} {cls : Value} {d : Option Addr} {i : Nat} (hz : ExcIs cls d (a, oe)) : ∀ (σ : L2.St) H Q, tCallP (spA_kinds cl a cls d) (tCons (tVar i) tNil) σ H Q → tCallP (sp_kinds cl (a, oe)) (tCons (tVar i) tNil) σ H Q :=
  fun σ H Q ⟨v, e, h⟩ => ⟨v, e, cls, d, hz, h⟩
theorem ok_kinds {f : Addr} {fd : FuncData} (F : Fun K "_law_kinds" "_law_kinds" s__law_kinds f fd) (T : ErrTxt P K mg cl CM) : FnP P w K mg base 1 f fd P__law_kinds (sp_kinds cl) := by
  refine fnP_of F sc__law_kinds (fun p vs H Q E h => ?_) (fun cdv A outer s H vs Q p hr h => ?_)
  · obtain ⟨cls, d, hz, k, fs, hk, _, _, rfl, _⟩ := h
    rfl
  · obtain ⟨cls, d, hz, k, fs, hk, rfl, hd, rfl, q⟩ := h
    refine ⟨_, (pss_cons (ps_set (i := 1) sc__law_kinds.nd rfl (Or.inl rfl) (pe_lst (pa_cons (pe_callB (call_isP (List.mem_cons_self ..) hz) (by rfl) T.b_isinstance (by decide +kernel) (pa_cons (pv 0) (pa_cons (pe_glob (v := V.ref _) rfl T.e_BadText.gC rfl) pa_nil))) (pa_cons (pe_callB (call_isP (List.mem_cons_self ..) hz) (by rfl) T.b_isinstance (by decide +kernel) (pa_cons (pv 0) (pa_cons (pe_glob (v := V.ref _) rfl T.e_TooMany.gC rfl) pa_nil))) (pa_cons (pe_callB (call_isP (List.mem_cons_self ..) hz) (by rfl) T.b_isinstance (by decide +kernel) (pa_cons (pv 0) (pa_cons (pe_glob (v := V.ref _) rfl T.e_NotRun.gC rfl) pa_nil))) (pa_cons (pe_callB (call_isP (List.mem_cons_self ..) hz) (by rfl) T.b_isinstance (by decide +kernel) (pa_cons (pv 0) (pa_cons (pe_glob (v := V.ref _) rfl T.e_NotComplete.gC rfl) pa_nil))) pa_nil))))))
      (pss_cons (ps_set (i := 1) sc__law_kinds.nd rfl (Or.inl rfl) (pe_op op_cat (pv 1) (pe_lst (pa_cons (pe_callB (call_isP (List.mem_cons_self ..) hz) (by rfl) T.b_isinstance (by decide +kernel) (pa_cons (pv 0) (pa_cons (pe_glob (v := V.ref _) rfl T.e_NoRun.gC rfl) pa_nil))) (pa_cons (pe_callB (call_isP (List.mem_cons_self ..) hz) (by rfl) T.b_isinstance (by decide +kernel) (pa_cons (pv 0) (pa_cons (pe_glob (v := V.ref _) rfl T.e_BadMode.gC rfl) pa_nil))) (pa_cons (pe_callB (call_isP (List.mem_cons_self ..) hz) (by rfl) T.b_isinstance (by decide +kernel) (pa_cons (pv 0) (pa_cons (pe_glob (v := V.ref _) rfl T.e_BadLine.gC rfl) pa_nil))) pa_nil))))))
      (pss_cons (ps_set (i := 1) sc__law_kinds.nd rfl (Or.inl rfl) (pe_op op_cat (pv 1) (pe_lst (pa_cons (pe_callB (call_isP (List.mem_cons_self ..) hz) (by rfl) T.b_isinstance (by decide +kernel) (pa_cons (pv 0) (pa_cons (pe_glob (v := V.ref _) rfl T.e_BadValue.gC rfl) pa_nil))) (pa_cons (pe_callB (call_isP (List.mem_cons_self ..) hz) (by rfl) T.b_isinstance (by decide +kernel) (pa_cons (pv 0) (pa_cons (pe_glob (v := V.ref _) rfl T.e_WrongMode.gC rfl) pa_nil))) (pa_cons (pe_callB (call_isP (List.mem_cons_self ..) hz) (by rfl) T.b_isinstance (by decide +kernel) (pa_cons (pv 0) (pa_cons (pe_glob (v := V.ref _) rfl T.e_NoStretch.gC rfl) pa_nil))) pa_nil))))))
      (pss_cons (ps_set (i := 1) sc__law_kinds.nd rfl (Or.inl rfl) (pe_op op_cat (pv 1) (pe_lst (pa_cons (pe_callB (call_isP (List.mem_cons_self ..) hz) (by rfl) T.b_isinstance (by decide +kernel) (pa_cons (pv 0) (pa_cons (pe_glob (v := V.ref _) rfl T.e_Unlike.gC rfl) pa_nil))) (pa_cons (pe_callB (call_isP (List.mem_cons_self ..) hz) (by rfl) T.b_isinstance (by decide +kernel) (pa_cons (pv 0) (pa_cons (pe_glob (v := V.ref _) rfl T.e_NoBest.gC rfl) pa_nil))) (pa_cons (pe_callB (call_isP (List.mem_cons_self ..) hz) (by rfl) T.b_isinstance (by decide +kernel) (pa_cons (pv 0) (pa_cons (pe_glob (v := V.ref _) rfl T.e_Refused.gC rfl) pa_nil))) pa_nil))))))
      (pss_one (ps_ret (pe_op op_cat (pv 1) (pe_lst (pa_cons (pe_callB (call_isP (List.mem_cons_self ..) hz) (by rfl) T.b_isinstance (by decide +kernel) (pa_cons (pv 0) (pa_cons (pe_glob (v := V.ref _) rfl T.e_NoGuard.gC rfl) pa_nil))) (pa_cons (pe_callB (call_isP (List.mem_cons_self ..) hz) (by rfl) T.b_isinstance (by decide +kernel) (pa_cons (pv 0) (pa_cons (pe_glob (v := V.ref _) rfl T.e_NothingLeft.gC rfl) pa_nil))) pa_nil)))))))))), ?_⟩
    show tSeq _ _ _ [some (V.ref p.1), none] H
    walk_at "rd"
    repeat (refine x_isK T hk (by decide) hd ?_; walk_at "rd")
    intro p1 n1
    generalize eH : upd H p1 _ = H1
    have s1 : Same H H1 := eH ▸ same_upd n1
    have e1 : H1 p1 = _ := eH ▸ upd_same
    clear eH n1
    walk_at "rd"
    repeat (refine x_isK T hk (by decide) (hd.same s1) ?_; walk_at "rd")
    intro p2 n2
    refine x_catN n2 e1 rfl fun H2 p3 s2 e2 => ?_
    have s2 := s1.trans s2
    clear e1 n2 s1
    walk_at "rd"
    repeat (refine x_isK T hk (by decide) (hd.same s2) ?_; walk_at "rd")
    intro p4 n4
    refine x_catN n4 e2 rfl fun H3 p5 s3 e3 => ?_
    have s3 := s2.trans s3
    clear e2 n4 s2
    walk_at "rd"
    repeat (refine x_isK T hk (by decide) (hd.same s3) ?_; walk_at "rd")
    intro p6 n6
    refine x_catN n6 e3 rfl fun H4 p7 s4 e4 => ?_
    have s4 := s3.trans s4
    clear e3 n6 s3
    walk_at "rd"
    repeat (refine x_isK T hk (by decide) (hd.same s4) ?_; walk_at "rd")
    intro p8 n8
    refine x_catN n8 e4 rfl fun H5 p9 s5 e5 => ?_
    exact q _ _ (s4.trans s5) e5
def spA_fields (cl : Nat → Addr) (e : Addr) (cls : Value) (d : Option Addr) : Sp := fun vs H Q E => ∃ (k : Nat) (a : Int) (b : Str) (c : V), k < 15 ∧ cls = .ref (cl k) ∧ DOk d (flds k a b c) H ∧ vs = [.int k, .ref e] ∧ ∀ r H', Same H H' → H' r = some (.lst (fldV k a b c)) → Q (.ref r) H'
def sp_fields (cl : Nat → Addr) (p : Addr × Obj) : Sp := fun vs H Q E => ∃ cls d, ExcIs cls d p ∧ spA_fields cl p.1 cls d vs H Q E
theorem i__law_fields {a : Addr} {oe : Obj} {cls : Value} {d : Option Addr} {i j : Nat} (hz : ExcIs cls d (a, oe)) : ∀ (σ : L2.St) H Q, tCallP (spA_fields cl a cls d) (tCons (tVar j) (tCons (tVar i) tNil)) σ H Q → tCallP (sp_fields cl (a, oe)) (tCons (tVar j) (tCons (tVar i) tNil)) σ H Q :=
  fun σ H Q ⟨v, e, v2, e2, h⟩ => ⟨v, e, v2, e2, cls, d, hz, h⟩
theorem in15 {k : Nat} (h : k < 15) : k = 0 ∨ k = 1 ∨ k = 2 ∨ k = 3 ∨ k = 4 ∨ k = 5 ∨ k = 6 ∨ k = 7 ∨ k = 8 ∨ k = 9 ∨ k = 10 ∨ k = 11 ∨ k = 12 ∨ k = 13 ∨ k = 14 := by omega
theorem ok_fields {f : Addr} {fd : FuncData} (F : Fun K "_law_fields" "_law_fields" s__law_fields f fd) (T : ErrTxt P K mg cl CM) : FnP P w K mg base 1 f fd P__law_fields (sp_fields cl) := by
  refine fnP_of F sc__law_fields (fun p vs H Q E h => ?_) (fun cdv A outer s H vs Q p hr h => ?_)
  · obtain ⟨cls, d, hz, k, a, b, c, hk, _, _, rfl, _⟩ := h
    rfl
  · obtain ⟨cls, d, hz, k, a, b, c, hk, rfl, hd, rfl, q⟩ := h
    refine ⟨_, (pss_cons (ps_if (pt_cmpR op_in_seq (pv 0) (pe_lst (pa_cons pe_int (pa_cons pe_int (pa_cons pe_int pa_nil)))) rfl) (pss_one (ps_ret (pe_lst (pa_cons (pe_pf (List.mem_cons_self ..) hz (pv 1)) pa_nil)))) pss_nil)
      (pss_cons (ps_if (pt_cmpR op_in_seq (pv 0) (pe_lst (pa_cons pe_int (pa_cons pe_int (pa_cons pe_int pa_nil)))) rfl) (pss_one (ps_ret (pe_lst (pa_cons (pe_pf (List.mem_cons_self ..) hz (pv 1)) pa_nil)))) pss_nil)
      (pss_cons (ps_if (pt_cmpR op_eq (pv 0) pe_int (nomark _)) (pss_one (ps_ret (pe_lst (pa_cons (pe_pf (List.mem_cons_self ..) hz (pv 1)) pa_nil)))) pss_nil)
      (pss_cons (ps_if (pt_cmpR op_eq (pv 0) pe_int (nomark _)) (pss_one (ps_ret (pe_lst (pa_cons (pe_pf (List.mem_cons_self ..) hz (pv 1)) pa_nil)))) pss_nil)
      (pss_cons (ps_if (pt_cmpR op_eq (pv 0) pe_int (nomark _)) (pss_one (ps_ret (pe_lst (pa_cons (pe_pf (List.mem_cons_self ..) hz (pv 1)) (pa_cons (pe_pf (List.mem_cons_self ..) hz (pv 1)) pa_nil))))) pss_nil)
      (pss_one (ps_ret (pe_ifExp (pt_cmpR op_eq (pv 0) pe_int (nomark _)) (pe_lst (pa_cons (pe_pf (List.mem_cons_self ..) hz (pv 1)) pa_nil)) (pe_lst pa_nil))))))))), ?_⟩
    show tSeq _ _ _ [some (V.int k), some (V.ref p.1)] H
    have hf := T.xn k hk
    have hx := T.xf k hk
    walk_at "rd"
    intro p1 n1
    generalize eH : upd H p1 _ = H1
    have s1 : Same H H1 := eH ▸ same_upd n1
    have e1 : H1 p1 = _ := eH ▸ upd_same
    refine x_inL (SqL.of e1) rfl rfl ?_
    clear eH n1 e1
    have q1 : ∀ r H', Same H1 H' → H' r = some (.lst (fldV k a b c)) → Q (.ref r) H' := fun r H' e => q r H' (s1.trans e)
    have d1 := hd.same s1
    clear q hd s1 hz hr
    rcases in15 hk with rfl | rfl | rfl | rfl | rfl | rfl | rfl | rfl | rfl | rfl | rfl | rfl | rfl | rfl | rfl
    all_goals
      repeat first
        | walk_at "rd1"
        | refine x_cT (by decide) ?_
        | refine x_cF (by decide) ?_
        | ((with_reducible intro p2 n2); refine x_inL (SqL.of upd_same) rfl rfl ?_; generalize eH : upd H1 p2 _ = H2; have s2 : Same H1 H2 := eH ▸ same_upd n2; have q2 : ∀ r H', Same H2 H' → H' r = some (.lst _) → Q (.ref r) H' := fun r H' e => q1 r H' (s2.trans e); have d2 := d1.same s2; clear eH n2 s2)
        | refine x_pf rfl hx (hf _ (by decide)) d2 rfl ?_
        | refine x_pf rfl hx (hf _ (by decide)) d1 rfl ?_
        | (intro p3 n3; exact q2 _ _ (same_upd n3) upd_same)
        | (intro p3 n3; exact q1 _ _ (same_upd n3) upd_same)
end
end MP
namespace MP
open PySem L2 MPX
section
variable {P : Program} {w : World} {K : PySem.W.Frag} {mg : Str → Option Value} {base : Heap} {cl : Nat → Addr} {CM : Addr}
theorem roomS {X : Cx} {k : Nat} {a : Addr} {pn : List (Addr × Obj)} (r : Room k X.A) : L2H.RoomH k (X.suite a pn).A := ⟨r.dp, r.un⟩
theorem call_isA {X : Cx} {a : Addr} {oe : Obj} {cls : Value} {d : Option Addr} (hp : (a, oe) ∈ X.pn) (hz : ExcIs cls d (a, oe)) {K : PySem.W.Frag} (hk : X.K = K) : CallR X (.builtin "isinstance") (rIsP K a cls d) := hk ▸ call_isP hp hz
def sp_caught : Sp := fun vs H Q E => ∃ (k : Nat) (a : Int) (b : Str) (c : V), vs = [.int k, .int a, .str b, c] ∧ k < 15 ∧ ∀ r r0 r1 H', Same H H' → H' r = some (.lst [.ref r0, .ref r1, .bl true]) → H' r0 = some (.lst (kindL k)) → H' r1 = some (.lst (fldV k a b c)) → Q (.ref r) H'
theorem ok_caught {f : Addr} {fd : FuncData} (F : Fun K "_law_caught" "_law_caught" s__law_caught f fd) (T : ErrTxt P K mg cl CM) (c__law_raised : Cal P w K mg base 3 "_law_raised" (sp_raised cl)) (c__law_kinds : CalP P w K mg base 1 "_law_kinds" (sp_kinds cl)) (c__law_fields : CalP P w K mg base 1 "_law_fields" (sp_fields cl)) : FnOk P w K mg base (L2.CX P w) 4 f fd P__law_caught sp_caught := by
  refine F.okX sc__law_caught (fun vs H Q E h => ?_) (fun cdv A outer s H vs Q E hr h => ?_)
  · obtain ⟨k, a, b, c, rfl, _⟩ := h
    rfl
  · obtain ⟨k, a, b, c, rfl, hk, q⟩ := h
    refine ⟨_, (pss_cons (ps_try_as (i := 4) (tb := fun W => _) rfl rfl sc__law_caught.nd rfl rfl ⟨rfl, by decide, Or.inl T.g_ModeError⟩ takes0 (fun W pn xe tk _ => (pss_one (ps_expr (pe_cs c__law_raised hr (by decide) rfl (fun σ => passAt tk σ) (pa_cons (pv 0) (pa_cons (pv 1) (pa_cons (pv 2) (pa_cons (pv 3) pa_nil))))))))
      (fun a oe cls d pn hz0 hf => have hz : ExcIs cls d (a, oe) := ⟨hz0, hf⟩; (pss_one (ps_ret (pe_lst (pa_cons (pe_imp (pe_cp c__law_kinds (roomS hr) (by decide) (List.mem_cons_self ..) rfl (pa_cons (pv 4) pa_nil)) (i__law_kinds hz)) (pa_cons (pe_imp (pe_cp c__law_fields (roomS hr) (by decide) (List.mem_cons_self ..) rfl (pa_cons (pv 0) (pa_cons (pv 4) pa_nil))) (i__law_fields hz)) (pa_cons (pe_callB (call_isA (List.mem_cons_self ..) hz (rfl : _ = K)) (by rfl) T.b_isinstance (by decide +kernel) (pa_cons (pv 4) (pa_cons (pe_bltn (v := V.ty "ValueError") rfl T.b_ValueError boot_ValueError rfl) pa_nil))) pa_nil))))))))
      (pss_one (ps_ret (pe_lst pa_nil)))), ?_⟩
    show tSeq _ _ _ [some (V.int k), some (V.int a), some (V.str b), some c, none] H
    walk_at "rd"
    refine ⟨k, a, b, c, rfl, hk, fun d H1 s1 hd => ⟨true, T.exm k hk, fun _ e n => ?_, fun z => Bool.noConfusion z⟩⟩
    walk_at "rd"
    refine ⟨k, _, hk, rfl, hd, rfl, fun r0 H2 s2 e2 => ?_⟩
    walk_at "rd"
    refine ⟨k, a, b, c, hk, rfl, hd.same s2, rfl, fun r1 H3 s3 e3 => ?_⟩
    walk_at "rd"
    refine x_isV T hk (hd.same (s2.trans s3)) ?_
    walk_at "rd"
    intro p np
    exact q _ _ _ _ (((s1.trans s2).trans s3).trans (same_upd np)) upd_same (upd_new (s3 _ _ e2) np) (upd_new e3 np)
end
end MP
namespace MP
open PySem PySem.Spec PyProof.Rows L2
/-! ### != of nested lists that are equal; an object is equal to itself -/
def LsR (K : PySem.W.Frag) (H : Hp) (F : V → V → Prop) (x y : V) : Prop := ∃ a b xs ys, x = .ref a ∧ y = .ref b ∧ SqL K H a xs ∧ SqL K H b ys ∧ Paired F xs ys
def EqW (K : PySem.W.Frag) (H : Hp) : Nat → V → V → Prop
  | 0 => fun _ _ => False
  | n + 1 => fun x y => (x = y ∧ flatB x = true) ∨ (∃ a, x = .ref a ∧ y = .ref a) ∨ LsR K H (EqW K H n) x y
theorem items_at {A : Around} {s : Shared} {F : V → V → Prop} (ih : ∀ x y v u, F x y → RelV x v → RelV y u → SeqAt.EqAt A s v u true) {xs ys : List V} (hp : Paired F xs ys) :
    ∀ {us ws : List Value}, Vals xs us → Vals ys ws → ∀ j (h1 : j < us.length) (h2 : j < ws.length), SeqAt.EqAt A s us[j] ws[j] true := by
  induction hp with
  | nil =>
    intro us ws r1 r2 j h1 h2
    cases r1
    exact absurd h1 (Nat.not_lt_zero j)
  | cons h _ k =>
    intro us ws r1 r2 j h1 h2
    cases r1 with
    | cons a1 b1 =>
      cases r2 with
      | cons a2 b2 =>
        cases j with
        | zero => exact ih _ _ _ _ h a1 a2
        | succ j => exact k b1 b2 j (Nat.lt_of_succ_lt_succ h1) (Nat.lt_of_succ_lt_succ h2)
section
variable {X : Cx} {pins : List (Addr × Obj)} {σ : L2.St} {H : Hp} {s : Shared}
theorem lists_of (I : Inv X pins σ H s) {A : Around} {F : V → V → Prop} (ih : ∀ x y v u, F x y → RelV x v → RelV y u → SeqAt.EqAt A.in1 s v u true) {a b : Addr} {xs ys : List V} (ha : SqL X.K H a xs) (hb : SqL X.K H b ys) (hp : Paired F xs ys) :
    ∃ us ws : Array Value, s.heap.IsList a us ∧ s.heap.IsList b ws ∧ us.size = ws.size ∧ ∀ j (h1 : j < us.size) (h2 : j < ws.size), SeqAt.EqAt A.in1 s us[j] ws[j] ((fun _ => true) j) := by
  obtain ⟨us, r1, p1, _⟩ := I.list ha
  obtain ⟨ws, r2, p2, _⟩ := I.list hb
  refine ⟨us.toArray, ws.toArray, p1.isList, p2.isList, ?_, fun j h1 h2 => ?_⟩
  · rw [List.size_toArray, List.size_toArray, ← r1.length, ← r2.length]
    exact Paired.length hp
  · have k := items_at ih hp r1 r2 j (by simpa using h1) (by simpa using h2)
    simpa using k
theorem all_t (n : Nat) : ((List.range n).all fun _ => true) = true := List.all_eq_true.mpr fun _ _ => rfl
theorem eqW_run (I : Inv X pins σ H s) : ∀ (n : Nat) (A : Around), A.units + n < cLine → ∀ (x y : V) (v u : Value), EqW X.K H n x y → RelV x v → RelV y u → SeqAt.EqAt A s v u true
  | 0, _, _, _, _, _, _, h, _, _ => (show False from h).elim
  | n + 1, A, hu, x, y, v, u, h, rx, ry => by
    rcases h with ⟨rfl, f⟩ | ⟨a, rfl, rfl⟩ | ⟨a, b, xs, ys, rfl, rfl, ha, hb, hp⟩
    · exact eqAt_same rx ry f
    · cases (show v = Value.ref a from rx)
      cases (show u = Value.ref a from ry)
      exact SeqAt.EqAt.same _
    · obtain ⟨us, ws, l1, l2, hz, he⟩ := lists_of I (A := A) (eqW_run I n A.in1 (by show A.units + 1 + n < cLine; omega)) ha hb hp
      cases (show v = Value.ref a from rx)
      cases (show u = Value.ref b from ry)
      by_cases e : a = b
      · subst e
        exact SeqAt.EqAt.same _
      · have q := SeqAt.RcAt.lists l1 l2 hz (by omega) he
        rw [all_t] at q
        exact SeqAt.EqAt.of_refs e q
end
/-- x != y, two lists that are equal -/
def rNeW (K : PySem.W.Frag) : R2 := fun x y H Q => ∃ n, n ≤ 60 ∧ LsR K H (EqW K H n) x y ∧ Q (.bl false) H
theorem op_neW {X : Cx} (hu : X.A.units + 64 < cLine) : OpR X (compareOp .NotEq) (rNeW X.K) := by
  intro pins s σ H x y v u Q I rx ry h
  obtain ⟨n, hn, ⟨a, b, xs, ys, rfl, rfl, ha, hb, hp⟩, q⟩ := h
  obtain ⟨us, ws, l1, l2, hz, he⟩ := lists_of I (A := X.A) (eqW_run I n X.A.in1 (by show X.A.units + 1 + n < cLine; omega)) ha hb hp
  cases (show v = Value.ref a from rx)
  cases (show u = Value.ref b from ry)
  have z := SeqAt.RcNeAt.lists l1 l2 hz (by omega) he
  rw [all_t] at z
  exact z _ _ _ _ ⟨.bl false, H, I, rfl, q⟩
def rTup (K : PySem.W.Frag) : List V → Hp → VK → Prop := fun xs H Q => ∃ p ys, xs = [.ref p] ∧ ((SqL K H p ys ∧ ∀ l, H l = none → Q (.ref l) (upd H l (.tup ys))) ∨ (SqT K H p ys ∧ Q (.ref p) H))
theorem call_tuple_K {X : Cx} {K : PySem.W.Frag} (hk : X.K = K) : CallR X (.type "tuple") (rTup K) := hk ▸ call_tuple_of
theorem x_tupL {K : PySem.W.Frag} {p : Addr} {ys : List V} {H : Hp} {Q : VK} (h : SqL K H p ys) (q : ∀ l, H l = none → Q (.ref l) (upd H l (.tup ys))) : rTup K [.ref p] H Q := ⟨p, ys, rfl, .inl ⟨h, q⟩⟩
/-! ### a class of the module that is called -/
structure CalM (P : Program) (w : World) (K : PySem.W.Frag) (mg : Str → Option Value) (base : Heap) (k : Nat) (x : Str) (C : Addr) (sp : Sp) : Prop where
  ex : ∃ (f : Addr) (fd : FuncData) (ps : List Str), Mk K C f ∧ FnOk P w K mg base (L2.CX P w) k f fd ps sp ∧ mg x = some (.ref C) ∧ Binds K fd ps []
theorem pe_cm {X : Cx} {k j : Nat} {x : Str} {C : Addr} {sp : Sp} {p pos : Pos} {e : Expr} {es : List Expr} {t : TA} (c : CalM X.prog X.w X.K X.mg X.base k x C sp) (hr : Room j X.A) (hk : k + 1 ≤ j) (hg : Gl X x) (ha : PA X (e :: es) t)
    (hdb : (x == ("__debug__" : Str)) = false := by decide) (he : starEach (e :: es) X.env = (false, eval e X.env) :: starEach es X.env := by rfl) (hpl : (backTo pos (starEach es X.env)).any (·.1) = false := by rfl) :
    PE X (.Call (.Name x p) (e :: es) [] pos) (tMake C sp [] E0 t) := by
  obtain ⟨f, fd, ps, M, F, hm, b⟩ := c.ex
  exact pe_make M F (hr.mono hk) hg hm b .nil passL ha hdb he hpl
end MP
namespace MP
open PySem L2 MPX
section
variable {P : Program} {w : World} {K : PySem.W.Frag} {mg : Str → Option Value} {base : Heap}
abbrev s_Paper___init__ : Stmt := inClass (topS 19) 0
abbrev N_Paper___init__ : List Str := ["self", "runs", "carriers", "lines", "value", "amount"]
abbrev P_Paper___init__ : List Str := ["self", "runs", "carriers"]
theorem sc_Paper___init__ : FnScope N_Paper___init__ P_Paper___init__ (defScope s_Paper___init__) := ⟨rfl, rfl, rfl, by decide +kernel, rfl, by decide +kernel, by decide +kernel⟩
structure PapTxt (K : PySem.W.Frag) (mg : Str → Option Value) (C : Addr) : Prop where
  b_tuple : mg "tuple" = none
  cls : Cls K C
  n1 : NoAttr K C "runs"
  n2 : NoAttr K C "carriers"
/-- an empty paper is made -/
def sp_paper (C : Addr) : Sp := fun vs H Q E => ∃ (x l1 l2 dx : Addr), vs = [.ref x, .ref l1, .ref l2] ∧ H x = some (.ins C dx []) ∧ H l1 = some (.lst []) ∧ H l2 = some (.lst []) ∧ ∀ H', (∀ b o, H b = some o → b ≠ x → H' b = some o) → Q .non H'
theorem ok_paper {C f : Addr} {fd : FuncData} (F : Fun K "__init__" "Paper.__init__" s_Paper___init__ f fd) (T : PapTxt K mg C) : FnOk P w K mg base (L2.CX P w) 1 f fd P_Paper___init__ (sp_paper C) := by
  refine F.okX sc_Paper___init__ (fun vs H Q E h => ?_) (fun cdv A outer s H vs Q E hr h => ?_)
  · obtain ⟨x, l1, l2, dx, rfl, _⟩ := h
    rfl
  · obtain ⟨x, l1, l2, dx, rfl, hx, h1, h2, q⟩ := h
    refine ⟨_, (pss_cons (ps_fld (pv 0) (pe_callTy (call_tuple_K (rfl : _ = K)) (by rfl) T.b_tuple (by decide +kernel) (pa_cons (pe_lc (own := [("lines", 3)]) (g := gName 3) (tt := tYes) rfl sc_Paper___init__.nd (pi_list (pv 1)) (blkOk_by (own := [("lines", 3)]) (N := N_Paper___init__) (sc := defScope s_Paper___init__) (by decide +kernel)) (fun _ _ _ _ _ => (pg_name (i := 3) sc_Paper___init__.nd rfl (Or.inl rfl))) (fun _ _ _ _ _ => pts_nil) (fun _ _ _ _ _ => (pe_callTy (call_tuple_K (rfl : _ = K)) (by rfl) T.b_tuple (by decide +kernel) (pa_cons (pv 3) pa_nil)))) pa_nil)) rfl)
      (pss_one (ps_fld (pv 0) (pe_callTy (call_tuple_K (rfl : _ = K)) (by rfl) T.b_tuple (by decide +kernel) (pa_cons (pe_lc (own := [("value", 4), ("amount", 5), ("lines", 3)]) (g := gTup K 3 (gCons (gName 4) (gCons (gName 5) (gCons (gName 3) gNil)))) (tt := tYes) rfl sc_Paper___init__.nd (pi_list (pv 2)) (blkOk_by (own := [("value", 4), ("amount", 5), ("lines", 3)]) (N := N_Paper___init__) (sc := defScope s_Paper___init__) (by decide +kernel)) (fun _ _ _ _ _ => (pg_tup rfl (pgs_cons (pg_name (i := 4) sc_Paper___init__.nd rfl (Or.inl rfl)) (pgs_cons (pg_name (i := 5) sc_Paper___init__.nd rfl (Or.inl rfl)) (pgs_cons (pg_name (i := 3) sc_Paper___init__.nd rfl (Or.inl rfl)) pgs_nil))))) (fun _ _ _ _ _ => pts_nil) (fun _ _ _ _ _ => (pe_tup (pa_cons (pv 4) (pa_cons (pv 5) (pa_cons (pe_callTy (call_tuple_K (rfl : _ = K)) (by rfl) T.b_tuple (by decide +kernel) (pa_cons (pv 3) pa_nil)) pa_nil)))))) pa_nil)) rfl))), ?_⟩
    show tSeq _ _ _ [some (V.ref x), some (V.ref l1), some (V.ref l2), none, none, none] H
    walk_at "rd"
    walk_at "rd"
    refine ⟨⟨_, SqL.of h1⟩, fun D nD => lc_pure (xs := []) (fun _ => true) (fun v => v) (SqL.of h1) nD (by decide) (fun x H acc R hx => nomatch hx) ?_⟩
    show tNil _ _ _
    walk_at "rd"
    refine x_tupL (SqL.of upd_same) fun l nl => ?_
    generalize eH : upd (upd H D _) l _ = H1
    have s1 : Same H H1 := eH ▸ (same_upd nD).trans (same_upd nl)
    clear eH nl nD
    walk_at "rd"
    refine ⟨s1 _ _ hx, T.cls, T.n1, by decide, ?_⟩
    have k2 : H1 l2 = some (.lst []) := s1 _ _ h2
    have kx : H1 x = some (.ins C dx []) := s1 _ _ hx
    have nx : l2 ≠ x := ne_of k2 kx (fun z => by cases z)
    generalize eH : upd H1 x _ = H2
    have k3 : H2 l2 = some (.lst []) := by rw [← eH, upd_ne nx]; exact k2
    have kx3 : H2 x = some (.ins C dx _) := eH ▸ upd_same
    have o2 : ∀ b o, H b = some o → b ≠ x → H2 b = some o := fun b o e n => by rw [← eH, upd_ne n]; exact s1 _ _ e
    clear eH
    walk_at "rd"
    refine ⟨⟨_, SqL.of k3⟩, fun D nD => lc_pure (xs := []) (fun _ => true) (fun v => v) (SqL.of k3) nD (by decide) (fun x H acc R hx => nomatch hx) ?_⟩
    show tNil _ _ _
    walk_at "rd"
    refine x_tupL (SqL.of upd_same) fun l nl => ?_
    generalize eH : upd (upd H2 D _) l _ = H3
    have s3 : Same H2 H3 := eH ▸ (same_upd nD).trans (same_upd nl)
    clear eH nl nD
    walk_at "rd"
    refine ⟨s3 _ _ kx3, T.cls, T.n2, Nat.le_of_ble_eq_true rfl, ?_⟩
    exact q _ fun b o e n => by rw [upd_ne n]; exact s3 _ _ (o2 b o e n)
end
end MP
namespace MP
open PySem L2 MPX
section
variable {P : Program} {w : World} {K : PySem.W.Frag} {mg : Str → Option Value} {base : Heap} {cl : Nat → Addr} {CM : Addr}
abbrev s_law : Stmt := topS 28
abbrev N_law : List Str := ["_law_script", "_law_pen_here", "_law_turn", "_law_k", "_law_a", "_law_b", "_law_digit", "_law_c", "_law_what", "_law_due", "_law_j"]
abbrev P_law : List Str := ["_law_script"]
theorem sc_law : FnScope N_law P_law (defScope s_law) := ⟨rfl, rfl, rfl, by decide +kernel, rfl, by decide +kernel, by decide +kernel⟩
structure LawTxt (mg : Str → Option Value) : Prop where
  b_range : mg "range" = none
  b_min : mg "min" = none
  b_len : mg "len" = none
/-- law's: a list of at most 63 ints is handed in, True comes out -/
def sp_law (K : PySem.W.Frag) : Sp := fun vs H Q _ => ∃ (a : Addr) (ns : List Int), vs = [.ref a] ∧ SqL K H a (ns.map V.int) ∧ ns.length ≤ 63 ∧ ∀ H', Q (.bl true) H'
def what (b : Str) : Str := if b = ("ink" : Str) then ("characters" : Str) else ("lines" : Str)
def due1 (k : Nat) (z : Int) (b : Str) : List V :=
  if k = 0 then [.int z] else if k = 1 then [] else if k = 2 then [.int z] else if k = 3 then [] else if k = 4 then [] else if k = 5 then [.str b] else
  if k = 6 then [.int z] else if k = 7 then [.int z] else if k = 8 then [.int z, .str b] else if k = 9 then [] else if k = 10 then [] else if k = 11 then [] else if k = 12 then [.str b] else if k = 13 then [.str b] else []
theorem eqw_refl {H : Hp} {n : Nat} : ∀ (xs : List V), (∀ v ∈ xs, flatB v = true ∨ ∃ a, v = .ref a) → Paired (EqW K H (n + 1)) xs xs
  | [], _ => .nil
  | v :: r, h => .cons (by
      rcases h v List.mem_cons_self with e | ⟨a, e⟩
      · exact Or.inl ⟨rfl, e⟩
      · exact Or.inr (Or.inl ⟨a, e, e⟩)) (eqw_refl r fun u hu => h u (List.mem_cons_of_mem _ hu))
theorem kindL_flat (k : Nat) : ∀ v ∈ kindL k, flatB v = true ∨ ∃ a, v = .ref a := by
  intro v hv
  obtain ⟨j, _, rfl⟩ := List.mem_map.mp hv
  exact Or.inl rfl
theorem fldV_flat {k : Nat} (hk : k < 15) (z : Int) (b : Str) (c : Addr) : ∀ v ∈ fldV k z b (.ref c), flatB v = true ∨ ∃ a, v = .ref a := by
  have h1 : ∀ x : V, flatB x = true → ∀ v ∈ [x], flatB v = true ∨ ∃ a, v = .ref a := fun x f v hv => by
    rw [List.mem_singleton.mp hv]
    exact Or.inl f
  have h0 : ∀ v ∈ ([] : List V), flatB v = true ∨ ∃ a, v = .ref a := fun v hv => nomatch hv
  rcases in15 hk with rfl | rfl | rfl | rfl | rfl | rfl | rfl | rfl | rfl | rfl | rfl | rfl | rfl | rfl | rfl
  all_goals first
    | exact h1 _ rfl
    | exact h0
    | (intro v hv; rcases List.mem_cons.mp hv with rfl | hv <;> first | exact Or.inl rfl | (rw [List.mem_singleton.mp hv]; exact Or.inl rfl) | exact Or.inr ⟨_, rfl⟩)
    | (intro v hv; rw [List.mem_singleton.mp hv]; exact Or.inr ⟨_, rfl⟩)
theorem kindL_at {k i : Nat} (hi : i < 15) : (kindL k)[i]? = some (.bl (decide (i = k))) := by
  unfold kindL
  rw [List.getElem?_map, List.getElem?_range hi]
  rfl
theorem ok_law {C f : Addr} {fd : FuncData} (F : Fun K "law" "law" s_law f fd) (T : LawTxt mg) (c__law_pen : Cal P w K mg base 1 "_law_pen" (sp_pen K)) (c__law_draw : Cal P w K mg base 1 "_law_draw" sp_draw) (c__law_pick : Cal P w K mg base 2 "_law_pick" (sp_pick K))
    (c__law_caught : Cal P w K mg base 4 "_law_caught" sp_caught) (c_Paper : CalM P w K mg base 1 "Paper" C (sp_paper C)) : FnOk P w K mg base CX0 5 f fd P_law (sp_law K) := by
  refine F.ok sc_law (fun vs H Q E h => ?_) (fun cdv A outer s H vs Q E hr h => ?_)
  · obtain ⟨a, ns, rfl, _⟩ := h
    rfl
  · obtain ⟨a, ns, rfl, hS, hlen, q⟩ := h
    refine ⟨_, (pss_cons (ps_set (i := 1) sc_law.nd rfl (Or.inl rfl) (pe_cc c__law_pen hr (by decide) rfl (pa_cons (pv 0) pa_nil)))
      (pss_cons (ps_for PassesOwn.never rfl (pi_range1 rfl T.b_range (pa_cons (pe_op op_add pe_int (pe_callB (call_min2 rfl) (by rfl) T.b_min (by decide +kernel) (pa_cons pe_int (pa_cons (pe_callB call_len_seq (by rfl) T.b_len (by decide +kernel) (pa_cons (pv 0) pa_nil)) pa_nil)))) pa_nil)) (pg_name (i := 2) sc_law.nd rfl (Or.inl rfl))
      (pss_word (ps_set (i := 3) sc_law.nd rfl (Or.inr rfl) (pe_ifExp (pt_cmpR op_lt (pv 2) pe_int (nomark _)) (pv 2) (pe_cc c__law_draw hr (by decide) rfl (pa_cons (pv 1) (pa_cons pe_int pa_nil)))))
      (pss_cons (ps_par (i := 4) (j := 5) (by rfl) sc_law.nd rfl rfl (by decide) rfl rfl (pa_cons pe_int (pa_cons (pe_cc c__law_pick hr (by decide) rfl (pa_cons (pv 1) (pa_cons (pe_lst (pa_cons pe_str (pa_cons pe_str (pa_cons pe_str (pa_cons pe_str (pa_cons pe_str pa_nil)))))) pa_nil))) pa_nil)) (by rfl))
      (pss_cons (ps_for PassesOwn.never rfl (pi_range1 rfl T.b_range (pa_cons pe_int pa_nil)) (pg_name (i := 6) sc_law.nd rfl (Or.inl rfl))
        (pss_one (ps_set (i := 4) sc_law.nd rfl (Or.inl rfl) (pe_op op_add (pe_op op_mulW (pv 4) pe_int) (pe_cc c__law_draw hr (by decide) rfl (pa_cons (pv 1) (pa_cons pe_int pa_nil)))))))
      (pss_word (ps_par (i := 7) (j := 8) (by rfl) sc_law.nd rfl rfl (by decide) rfl rfl (pa_cons (pe_cm c_Paper hr (by decide) rfl (pa_cons (pe_lst pa_nil) (pa_cons (pe_lst pa_nil) pa_nil))) (pa_cons (pe_ifExp (pt_cmpR op_eq (pv 5) pe_str (nomark _)) pe_str pe_str) pa_nil)) (by rfl))
      (pss_word (ps_set (i := 9) sc_law.nd rfl (Or.inl rfl) (pe_ifExp (pt_cmpR op_in_seq (pv 3) (pe_lst (pa_cons pe_int (pa_cons pe_int (pa_cons pe_int (pa_cons pe_int pa_nil))))) rfl) (pe_lst (pa_cons (pv 4) pa_nil)) (pe_ifExp (pt_cmpR op_in_seq (pv 3) (pe_lst (pa_cons pe_int (pa_cons pe_int (pa_cons pe_int pa_nil)))) rfl) (pe_lst (pa_cons (pv 5) pa_nil)) (pe_ifExp (pt_cmpR op_eq (pv 3) pe_int (nomark _)) (pe_lst (pa_cons (pv 4) (pa_cons (pv 5) pa_nil))) (pe_lst pa_nil)))))
      (pss_word (ps_set (i := 9) sc_law.nd rfl (Or.inl rfl) (pe_ifExp (pt_cmpR op_eq (pv 3) pe_int (nomark _)) (pe_lst (pa_cons (pv 8) pa_nil)) (pe_ifExp (pt_cmpR op_eq (pv 3) pe_int (nomark _)) (pe_lst (pa_cons (pv 7) pa_nil)) (pv 9))))
      (pss_one (ps_if (pt_cmpR (op_neW hr.units) (pe_cc c__law_caught hr (by decide) rfl (pa_cons (pv 3) (pa_cons (pv 4) (pa_cons (pv 5) (pa_cons (pv 7) pa_nil))))) (pe_lst (pa_cons (pe_lc (own := [("_law_j", 10)]) (g := gName 10) (tt := tYes) rfl sc_law.nd (pi_range1 rfl T.b_range (pa_cons pe_int pa_nil)) (blkOk_by (own := [("_law_j", 10)]) (N := N_law) (sc := defScope s_law) (by decide +kernel)) (fun _ _ _ _ _ => (pg_name (i := 10) sc_law.nd rfl (Or.inl rfl))) (fun _ _ _ _ _ => pts_nil) (fun _ _ _ _ _ => (pe_cmpR op_eq (pv 10) (pv 3) (nomark _)))) (pa_cons (pv 9) (pa_cons pe_bl pa_nil)))) (nomark _)) (pss_one (ps_ret pe_bl)) pss_nil)))))))))
      (pss_one (ps_ret pe_bl)))), ?_⟩
    show tSeq _ _ _ [some (V.ref a), none, none, none, none, none, none, none, none, none, none] H
    walk_at "rd"
    refine ⟨a, ns, rfl, hS, hlen, fun d H1 s1 n1 p1 => ?_⟩
    walk_at "rd"
    refine x_rngO ?_
    walk_at "rd"
    refine ⟨Or.inl (s1.seq hS), ?_⟩
    walk_at "rd"
    generalize hj : (15 : Int) + _ = j
    have hj1 : 15 ≤ j ∧ j ≤ 35 := by
      rw [← hj, List.length_map]
      split <;> omega
    refine ⟨by omega, by omega, for_range (n := j.toNat) (fun i σ H2 => Hold (∃ x2 x3 x4 x5 x6 x7 x8 x9 x10, σ = [some (.ref a), some (.ref d), x2, x3, x4, x5, x6, x7, x8, x9, x10] ∧ Pen H2 d ns (9 * i))) ⟨_, _, _, _, _, _, _, _, _, rfl, p1⟩ ?_ (fun σ H2 _ => q H2)⟩
    rintro i σ H2 hi ⟨x2, x3, x4, x5, x6, x7, x8, x9, x10, rfl, p2⟩
    have hi35 : i < 35 := by omega
    walk_at "rd"
    refine ⟨fun σ' H' => Hold (∃ (k : Nat) (x2 : Option V), k < 15 ∧ σ' = [some (.ref a), some (.ref d), x2, some (.int k), x4, x5, x6, x7, x8, x9, x10] ∧ Pen H' d ns (9 * i + 1)), ?_, ?_⟩
    · walk_at "rd"
      refine x_D (fun e => ?_) (fun e => ?_)
      · walk_at "rd"
        exact ⟨i, _, by omega, by rw [show ((0 : Int) + i) = i from Int.zero_add _]; rfl, p2.le (by omega)⟩
      · walk_at "rd"
        refine ⟨d, 15, ns, 9 * i, rfl, p2, by omega, by decide, by decide, fun z H3 z0 z1 kp p3 => ?_⟩
        walk_at "rd"
        exact ⟨z.toNat, _, by omega, by rw [show ((z.toNat : Nat) : Int) = z from by omega]; rfl, p3⟩
    rintro σ' H3 ⟨k, x2', hk, rfl, p3⟩
    walk_at "rd"
    intro p np
    walk_at "rd"
    refine ⟨d, p, _, ns, 9 * i + 1, rfl, p3.mono (same_upd np), by omega, SqL.of upd_same, by decide, by decide, fun v H4 hv kp p4 => ?_⟩
    obtain ⟨b, rfl⟩ : ∃ b, v = .str b := by
      simp only [List.mem_cons, List.not_mem_nil, or_false] at hv
      rcases hv with rfl | rfl | rfl | rfl | rfl <;> exact ⟨_, rfl⟩
    walk_at "rd"
    refine x_rngC (by decide) (by decide) (for_range (n := 7) (fun j σ H5 => Hold (∃ (z : Int) (x6 : Option V), 0 ≤ z ∧ z < 1000003 ^ j ∧ σ = [some (.ref a), some (.ref d), x2', some (.int k), some (.int z), some (.str b), x6, x7, x8, x9, x10] ∧ Pen H5 d ns (9 * i + 2 + j))) ⟨0, _, by decide, by decide, rfl, p4⟩ ?_ ?_)
    · rintro j σ H5 hj7 ⟨z, x6', z0, z1, rfl, p5⟩
      have hz : z.natAbs < 2 ^ 128 := by
        have hb : ∀ j : Nat, j < 7 → (1000003 : Int) ^ j ≤ 1000018000135000540001215001458000729 := by decide
        have := hb j hj7
        omega
      walk_at "rd"
      refine x_rI (wide_mul (a := 128) (b := 64) hz (by decide) (by decide) (by decide) (by decide)) ?_
      walk_at "rd"
      refine ⟨d, 1000003, ns, 9 * i + 2 + j, rfl, p5, by omega, by decide, by decide, fun y H6 y0 y1 kp6 p6 => ?_⟩
      walk_at "rd"
      refine ⟨z * 1000003 + y, _, by omega, ?_, rfl, p6⟩
      rw [Int.pow_succ]
      omega
    rintro σ H5 ⟨z, x6', z0, hz, rfl, p5⟩
    replace p5 : Pen H5 d ns (9 * (i + 1)) := p5.le (by omega)
    walk_at "rd"
    refine ⟨fun σ' H' => Hold (∃ (c : Addr), σ' = [some (.ref a), some (.ref d), x2', some (.int k), some (.int z), some (.str b), x6', some (.ref c), some (.str (what b)), x9, x10] ∧ Pen H' d ns (9 * (i + 1))), ?_, ?_⟩
    · walk_at "rd"
      intro l1 nl1
      walk_at "rd"
      intro l2 nl2
      walk_at "rd"
      intro x dx nx ndx nex
      have e1 := upd_new (o := HO.lst []) (upd_same (H := H5) (a := l1) (o := HO.lst [])) nl2
      have e2 := upd_same (H := upd H5 l1 (.lst [])) (a := l2) (o := HO.lst [])
      have s5 : Same H5 (upd (upd H5 l1 (.lst [])) l2 (.lst [])) := (same_upd nl1).trans (same_upd nl2)
      have nx' : ∀ o, upd (upd (upd H5 l1 (.lst [])) l2 (.lst [])) dx o x = none := fun o => by rw [upd_ne (Ne.symm nex)]; exact nx
      have s6 : ∀ o o', Same (upd (upd H5 l1 (.lst [])) l2 (.lst [])) (upd (upd (upd (upd H5 l1 (.lst [])) l2 (.lst [])) dx o) x o') := fun o o' => (same_upd ndx).trans (same_upd (nx' o))
      refine ⟨x, l1, l2, dx, rfl, upd_same, s6 _ _ _ _ e1, s6 _ _ _ _ e2, fun H6 kp => ⟨rfl, ?_⟩⟩
      have p6 : Pen H6 d ns (9 * (i + 1)) := p5.mono fun q o e => kp _ _ (s6 _ _ _ _ (s5 _ _ e)) (ne_of_none (s5 _ _ e) nx)
      walk_at "rd"
      refine x_D (fun eb => ?_) (fun eb => ?_)
      · walk_at "rd"
        refine ⟨x, ?_, p6⟩
        show _ = [_, _, _, _, _, _, _, _, some (V.str (if b = ("ink" : Str) then _ else _)), _, _]
        rw [if_pos (V.str.inj eb)]
        rfl
      · walk_at "rd"
        refine ⟨x, ?_, p6⟩
        show _ = [_, _, _, _, _, _, _, _, some (V.str (if b = ("ink" : Str) then _ else _)), _, _]
        rw [if_neg fun z => eb (by rw [z])]
        rfl
    rintro σ' H7 ⟨c, rfl, p7⟩
    refine ⟨fun σ' H' => Hold (∃ (p : Addr), σ' = [some (.ref a), some (.ref d), x2', some (.int k), some (.int z), some (.str b), x6', some (.ref c), some (.str (what b)), some (.ref p), x10] ∧ H' p = some (.lst (due1 k z b)) ∧ Pen H' d ns (9 * (i + 1))), ?_, ?_⟩
    · clear hz p5 hj hj1 hS q
      rcases in15 hk with rfl | rfl | rfl | rfl | rfl | rfl | rfl | rfl | rfl | rfl | rfl | rfl | rfl | rfl | rfl
      all_goals
        repeat first
          | walk_at "rd1"
          | refine x_cT (by decide) ?_
          | refine x_cF (by decide) ?_
          | ((with_reducible intro p2 n2); refine x_inL (SqL.of upd_same) rfl rfl ?_; generalize eH : upd _ p2 _ = H9; replace p7 : Pen H9 d ns _ := p7.mono (eH ▸ same_upd n2); clear eH n2)
          | (intro p3 n3; exact ⟨p3, rfl, upd_same, p7.mono (same_upd n3)⟩)
    rintro σ' H8 ⟨p8, rfl, e8, p8'⟩
    refine ⟨fun σ' H' => Hold (∃ (p : Addr), σ' = [some (.ref a), some (.ref d), x2', some (.int k), some (.int z), some (.str b), x6', some (.ref c), some (.str (what b)), some (.ref p), x10] ∧ H' p = some (.lst (fldV k z b (.ref c))) ∧ Pen H' d ns (9 * (i + 1))), ?_, ?_⟩
    · clear hz p5 hj hj1 hS q p7
      rcases in15 hk with rfl | rfl | rfl | rfl | rfl | rfl | rfl | rfl | rfl | rfl | rfl | rfl | rfl | rfl | rfl
      all_goals
        repeat first
          | walk_at "rd1"
          | refine x_cT (by decide) ?_
          | refine x_cF (by decide) ?_
          | (intro p3 n3; exact ⟨p3, rfl, upd_same, p8'.mono (same_upd n3)⟩)
          | exact ⟨p8, rfl, e8, p8'⟩
    rintro σ' H9 ⟨p9, rfl, e9, p9'⟩
    clear p8' e8 p7 p5
    walk_at "rd"
    refine ⟨k, z, b, .ref c, rfl, hk, fun r r0 r1 H10 s10 er er0 er1 => ?_⟩
    walk_at "rd"
    refine x_rngC (by decide) (by decide) fun D nD => lc_range (n := 15) (fun i H => Hold (H = upd H10 D (.lst ((kindL k).take i)))) ⟨rfl⟩ ?_ ?_
    · rintro i' H' hi' ⟨rfl⟩
      walk_at "rd"
      unfold tYes
      refine x_T ?_
      walk_at "rd"
      refine ⟨upd_same, ?_, ?_⟩
      · rw [List.length_take]
        have : (100000 : Nat) ≤ sizeLine := by decide
        omega
      · refine ⟨?_⟩
        rw [upd_upd, List.take_add_one, kindL_at (by omega)]
        have hb : decide (V.int ((0 : Int) + i') = V.int (k : Int)) = decide (i' = k) := decide_eq_decide.mpr ⟨fun e => by have := V.int.inj e; omega, fun e => by rw [e, Int.zero_add]⟩
        rw [hb]
        rfl
    rintro H' ⟨rfl⟩
    have eD : upd H10 D (.lst ((kindL k).take (15 : Int).toNat)) D = some (.lst (kindL k)) := upd_same
    have sD : Same H10 (upd H10 D (.lst ((kindL k).take (15 : Int).toNat))) := same_upd nD
    show tCons _ _ _ _ _
    walk_at "rd"
    intro pz npz
    have sz := fun o => sD.trans (same_upd (o := o) npz)
    refine ⟨2, by decide, ⟨r, pz, _, _, rfl, rfl, SqL.of (sz _ _ _ er), SqL.of upd_same, .cons (Or.inr (Or.inr ⟨r0, D, kindL k, kindL k, rfl, rfl, SqL.of (sz _ _ _ er0), SqL.of (upd_new eD npz), eqw_refl _ (kindL_flat k)⟩)) (.cons (Or.inr (Or.inr ⟨r1, p9, _, _, rfl, rfl, SqL.of (sz _ _ _ er1), SqL.of (sz _ _ _ (s10 _ _ e9)), eqw_refl _ (fldV_flat hk z b c)⟩)) (.cons (Or.inl ⟨rfl, rfl⟩) .nil))⟩, ?_⟩
    walk_at "rd"
    exact ⟨_, _, _, _, _, _, _, _, _, rfl, p9'.mono (s10.trans (sz _))⟩
end
end MP
namespace MPX
open PySem PySem.W PySem.Calls PyProof.Rows PySem.Spec
/-! ### the facts of an own exception class, as the top has made it -/
def errB (K : Frag) (C : Addr) : Bool :=
  decide (findIn K (.ref C) "__setattr__" = some (some (.builtin "object.__setattr__"))) && (keepIn K (.ref C) && (decide (subIn K (.ref C) (.type "BaseException") = some true) && (decide (subIn K (.ref C) (.type "ValueError") = some true) &&
  (decide (typeIn K (.ref C) = some (.type "type")) && (decide (ks_superIn K C C "__init__" = some (some (.builtin "ValueError.__init__"))) && (decide (mroIn K C (.ref C) = some true) &&
  (decide (nsIn K cStatics "thirdparty.any" = some none) && (decide (findIn K (.ref C) "__getattribute__" = some (some (.builtin "BaseException.__getattribute__"))) && (decide (findIn K (.ref C) "__getattr__" = some none) && (hasDictIn K C &&
  (decide (findIn K (.ref C) "__class__" = some (some (.builtin "object.__class__"))) && (decide (specialIn K (.builtin "object.__class__") "__get__" = some (some (.builtin "getset_descriptor.__get__"))) && (decide (takesIn K (.builtin "object.__class__") = some true) &&
  (decide (mroIn K C (.type "object") = some true) && (["line", "mode", "what", "index", "value", "paper"] : List Str).all fun n => decide (findIn K (.ref C) n = some none)))))))))))))))
theorem and_l {a b : Bool} (h : (a && b) = true) : a = true := (Bool.and_eq_true_iff.mp h).1
theorem and_r {a b : Bool} (h : (a && b) = true) : b = true := (Bool.and_eq_true_iff.mp h).2
theorem and_d {p : Prop} [Decidable p] {b : Bool} (h : (decide p && b) = true) : p := of_decide_eq_true (and_l h)
section
variable {K : Frag} {C : Addr}
theorem errB_ok (h : errB K C = true) : findIn K (.ref C) "__setattr__" = some (some (.builtin "object.__setattr__")) ∧ keepIn K (.ref C) = true ∧ subIn K (.ref C) (.type "BaseException") = some true ∧ subIn K (.ref C) (.type "ValueError") = some true ∧
    typeIn K (.ref C) = some (.type "type") ∧ ks_superIn K C C "__init__" = some (some (.builtin "ValueError.__init__")) ∧ mroIn K C (.ref C) = some true ∧ nsIn K cStatics "thirdparty.any" = some none ∧ L2.ExcC K C ∧ L2.XfC K C ∧
    ∀ n ∈ (["line", "mode", "what", "index", "value", "paper"] : List Str), findIn K (.ref C) n = some none := by
  unfold errB at h
  have h1 := and_d h
  have h := and_r h
  have h2 := and_l h
  have h := and_r h
  have h3 := and_d h
  have h := and_r h
  have h4 := and_d h
  have h := and_r h
  have h5 := and_d h
  have h := and_r h
  have h6 := and_d h
  have h := and_r h
  have h7 := and_d h
  have h := and_r h
  have h8 := and_d h
  have h := and_r h
  have h9 := and_d h
  have h := and_r h
  have h10 := and_d h
  have h := and_r h
  have h11 := and_l h
  have h := and_r h
  have h12 := and_d h
  have h := and_r h
  have h13 := and_d h
  have h := and_r h
  have h14 := and_d h
  have h := and_r h
  have h15 := and_d h
  have h := and_r h
  exact ⟨h1, h2, h3, h4, h5, h6, h7, h8, ⟨h9, h10, h3, h11, h12, h13, h14, h15⟩, ⟨h9, h10, h3, h11⟩, fun n hn => of_decide_eq_true (List.all_eq_true.mp h n hn)⟩
variable {prog : Program} {fI cda cc N : Addr} {ps : List Str} {body : List Stmt} {nm q qual file : Str} {bs bm : List Value} {sn : List Str} {sub : List Value} {ab : Bool} {col : Option Bool} {dd od cdd cld an : Option Addr} {k0 k1 k2 k3 k5 : Option Value}
  {oc dV kV doc pm ct ccl cl : Value} {osl ccs csl : Array (Option Value)} {vs : Array Value} {tf : Tok} {ar : Arg} {params : Arguments} {scope : Scope}
theorem supC_mk (eB : errB K C = true) (xL : K.lookup C = some (excClassObj nm q C N bs bm true sn sub ab col dd k0 k1 k2 k3 k5 "ValueError.__new__")) (bV : HandSPX.refsVE bm = true)
    (iC : findIn K (.ref C) "__init__" = some (some (.ref fI))) (tI : typeIn K (.ref fI) = some (.type "function")) (top : (prog.main.scope.names.lookup ("super" : Str)).isSome = false)
    (lF : K.lookup fI = some ⟨oc, od, .func (ksFn "__init__" qual params body scope dV kV doc pm an (.ref cda) ct cc), osl⟩) (cF : codeIn K (.ref cda) qual = true)
    (lC : K.lookup cda = some ⟨ccl, cdd, .fields vs, ccs⟩) (v2 : vs[2]? = some (.str file tf)) (mf : ((prog.main.file : Str) == file) = true) (lc : K.lookup cc = some ⟨cl, cld, .cell (some (.ref C)), csl⟩)
    (a1 : (params.posonlyargs ++ params.args).head? = some ar) (a2 : ar.arg = "self") (bd : ∀ us : List Value, us.length = ps.length → bindArgs (ksFn "__init__" qual params body scope dV kV doc pm an (.ref cda) ct cc) ⟨us, []⟩ = pure (ps.zip us))
    (n1 : scope.names.lookup ("super" : Str) = some .globalImplicit) (n2 : scope.names.lookup ("__class__" : Str) = some .free) (n3 : ∀ y ∈ ps, scope.names.lookup y = some .local) (n4 : ∀ x ∈ scope.names, x.2 ≠ .cell)
    (co : scope.isCoroutine = false) (ge : scope.isGenerator = false) (ki : scope.kind = .function) : SupC prog K C fI ps body := by
  obtain ⟨h1, h2, h3, h4, h5, h6, h7, h8, _⟩ := errB_ok eB
  exact ⟨⟨_, _, _, _, _, _, _, _, _, _, _, _, _, _, _, xL, bV⟩, h1, iC, tI, h2, h3, h4, h5, h6, h7, h8, top, qual, params, scope, oc, od, dV, kV, doc, pm, ct, an, osl, cda, cc, ccl, cl, cdd, cld, ccs, csl, vs, file, tf, ar, lF, cF, lC, v2, mf, lc, a1, a2, bd, n1, n2, n3, n4, co, ge, ki⟩
/-! what all errors say of each other -/
def kitB (K : Frag) (cs : List Addr) (CM : Addr) : Bool := (List.range 15).all fun i => errB K (cs.getD i 0) && (decide (kitOne K (.ref (cs.getD i 0)) (.type "ValueError") = some true) && (decide (exmOne K (.ref (cs.getD i 0)) (.ref CM) = some true) &&
  (List.range 15).all fun j => decide (kitOne K (.ref (cs.getD i 0)) (.ref (cs.getD j 0)) = some (decide (j = i)))))
end
end MPX
namespace MP
open PySem L2 MPX
section
variable {prog : Program} {K : PySem.W.Frag} {h : Heap} {mg : Str → Option Value} {x y z f g m : Str} {C fI : Addr} {j : Nat} {p0 p1 p2 p3 p4 p5 q0 q1 q2 q3 r0 r1 r2 r3 : Pos}
theorem exc0_mk (X : K.In h) (G : h.Ns mainGlobals mg) (aC : PySem.W.nsIn K mainGlobals x = some (some (.ref C))) (su : PySem.W.nsIn K mainGlobals "super" = some none) (S : SupC prog K C fI ["self"] [supRow m j p0 p1 p2 p3 p4 p5]) (ev : SupEv m j p0 p1 p2 p3 p4) : Exc0 prog K mg x C :=
  ⟨⟨_, _, _, _, _, _, _, _, _, S, ev⟩, PySem.W.mg_of X G aC, PySem.W.mg_none_of X G su⟩
theorem exc1_mk (X : K.In h) (G : h.Ns mainGlobals mg) (aC : PySem.W.nsIn K mainGlobals x = some (some (.ref C))) (su : PySem.W.nsIn K mainGlobals "super" = some none) (S : SupC prog K C fI ["self", y] [supRow m j p0 p1 p2 p3 p4 p5, stRow f y q0 q1 q2 q3]) (ev : SupEv m j p0 p1 p2 p3 p4)
    (ne : ("self" : Str) ≠ y) (nd : (y == ("__debug__" : Str)) = false) (n1 : PySem.W.findIn K (.ref C) f = some none) : Exc1 prog K mg x C f :=
  ⟨⟨_, _, _, _, _, _, _, _, _, _, _, _, _, _, S, ev, ne, nd⟩, n1, PySem.W.mg_of X G aC, PySem.W.mg_none_of X G su⟩
theorem exc2_mk (X : K.In h) (G : h.Ns mainGlobals mg) (aC : PySem.W.nsIn K mainGlobals x = some (some (.ref C))) (su : PySem.W.nsIn K mainGlobals "super" = some none) (S : SupC prog K C fI ["self", y, z] [supRow m j p0 p1 p2 p3 p4 p5, stRow f y q0 q1 q2 q3, stRow g z r0 r1 r2 r3]) (ev : SupEv m j p0 p1 p2 p3 p4)
    (ne : (["self", y, z] : List Str).Nodup) (nd : (y == ("__debug__" : Str)) = false) (nd2 : (z == ("__debug__" : Str)) = false) (n1 : PySem.W.findIn K (.ref C) f = some none) (n2 : PySem.W.findIn K (.ref C) g = some none) : Exc2 prog K mg x C f g :=
  ⟨⟨_, _, _, _, _, _, _, _, _, _, _, _, _, _, _, _, _, _, _, S, ev, ne, nd, nd2⟩, n1, n2, PySem.W.mg_of X G aC, PySem.W.mg_none_of X G su⟩
end
theorem lt15 {p : Nat → Prop} (h : ∀ k ∈ List.range 15, p k) : ∀ k, k < 15 → p k := fun k hk => h k (List.mem_range.mpr hk)
theorem all_mk {l : PySem.W.OpenLaw} {w : World} {K : PySem.W.Frag} {h : Heap} {mg : Str → Option Value} {fa : Addr} (X : K.In h) (G : h.Ns mainGlobals mg) (hfa : mg "law" = some (.ref fa))
    {C0 C1 C2 C3 C4 C5 C6 C7 C8 C9 C10 C11 C12 C13 C14 CM CP fP f_law_pen f_law_draw f_law_pick f_law_raised f_law_kinds f_law_fields f_law_caught flaw : Addr}
    (a_law_pen : PySem.W.nsIn K mainGlobals "_law_pen" = some (some (.ref f_law_pen))) (F_law_pen : ∃ fd, Fun K "_law_pen" "_law_pen" s__law_pen f_law_pen fd)
    (a_law_draw : PySem.W.nsIn K mainGlobals "_law_draw" = some (some (.ref f_law_draw))) (F_law_draw : ∃ fd, Fun K "_law_draw" "_law_draw" s__law_draw f_law_draw fd)
    (a_law_pick : PySem.W.nsIn K mainGlobals "_law_pick" = some (some (.ref f_law_pick))) (F_law_pick : ∃ fd, Fun K "_law_pick" "_law_pick" s__law_pick f_law_pick fd)
    (a_law_raised : PySem.W.nsIn K mainGlobals "_law_raised" = some (some (.ref f_law_raised))) (F_law_raised : ∃ fd, Fun K "_law_raised" "_law_raised" s__law_raised f_law_raised fd)
    (a_law_kinds : PySem.W.nsIn K mainGlobals "_law_kinds" = some (some (.ref f_law_kinds))) (F_law_kinds : ∃ fd, Fun K "_law_kinds" "_law_kinds" s__law_kinds f_law_kinds fd)
    (a_law_fields : PySem.W.nsIn K mainGlobals "_law_fields" = some (some (.ref f_law_fields))) (F_law_fields : ∃ fd, Fun K "_law_fields" "_law_fields" s__law_fields f_law_fields fd)
    (a_law_caught : PySem.W.nsIn K mainGlobals "_law_caught" = some (some (.ref f_law_caught))) (F_law_caught : ∃ fd, Fun K "_law_caught" "_law_caught" s__law_caught f_law_caught fd)
    (alaw : PySem.W.nsIn K mainGlobals "law" = some (some (.ref flaw))) (Flaw : ∃ fd, Fun K "law" "law" s_law flaw fd)
    (e0 : Exc1 l.prog K mg "BadText" C0 "line")
    (e1 : Exc1 l.prog K mg "TooMany" C1 "what")
    (e2 : Exc1 l.prog K mg "NotRun" C2 "index")
    (e3 : Exc0 l.prog K mg "NotComplete" C3 )
    (e4 : Exc0 l.prog K mg "NoRun" C4 )
    (e5 : Exc1 l.prog K mg "BadMode" C5 "mode")
    (e6 : Exc1 l.prog K mg "BadLine" C6 "line")
    (e7 : Exc1 l.prog K mg "BadValue" C7 "line")
    (e8 : Exc2 l.prog K mg "WrongMode" C8 "index" "value")
    (e9 : Exc0 l.prog K mg "NoStretch" C9 )
    (e10 : Exc0 l.prog K mg "Unlike" C10 )
    (e11 : Exc1 l.prog K mg "NoBest" C11 "paper")
    (e12 : Exc1 l.prog K mg "Refused" C12 "mode")
    (e13 : Exc1 l.prog K mg "NoGuard" C13 "mode")
    (e14 : Exc0 l.prog K mg "NothingLeft" C14 )
    (aM : PySem.W.nsIn K mainGlobals "ModeError" = some (some (.ref CM))) (kt : kitB K [C0, C1, C2, C3, C4, C5, C6, C7, C8, C9, C10, C11, C12, C13, C14] CM = true)
    (aP : PySem.W.nsIn K mainGlobals "Paper" = some (some (.ref CP))) (iP : PySem.W.findIn K (.ref CP) "__init__" = some (some (.ref fP))) (FP : ∃ fd, Fun K "__init__" "Paper.__init__" s_Paper___init__ fP fd) (mkP : PySem.W.makesIn K CP = true) (fnP : PySem.W.isFn K (.ref fP) = true) (kP : PySem.W.keepIn K (.ref CP) = true)
    (pgP : PySem.W.plainGet K CP Str.empty = true) (hdP : PySem.W.hasDictIn K CP = true) (poP : PySem.W.plainOver K CP = true) (saP : PySem.W.findIn K (.ref CP) "__setattr__" = some (some (.builtin "object.__setattr__"))) (n1P : PySem.W.findIn K (.ref CP) "runs" = some none) (n2P : PySem.W.findIn K (.ref CP) "carriers" = some none)
    (z_isinstance : PySem.W.nsIn K mainGlobals "isinstance" = some none) (z_ValueError : PySem.W.nsIn K mainGlobals "ValueError" = some none) (z_tuple : PySem.W.nsIn K mainGlobals "tuple" = some none) (z_range : PySem.W.nsIn K mainGlobals "range" = some none) (z_min : PySem.W.nsIn K mainGlobals "min" = some none) (z_len : PySem.W.nsIn K mainGlobals "len" = some none) (z_list : PySem.W.nsIn K mainGlobals "list" = some none) (z_int : PySem.W.nsIn K mainGlobals "int" = some none) :
    ∃ fd : FuncData, (∀ (s : Shared) (v : Value), BindsTo s fd ⟨[v], []⟩ [("_law_script", v)]) ∧ ∀ base : Heap, K.In base → base.Ns mainGlobals mg → FnOk l.prog w K mg base CX0 5 fa fd P_law (sp_law K) := by
  have e := hfa.symm.trans (PySem.W.mg_of X G alaw)
  cases e
  obtain ⟨fd_law_pen, F_law_pen⟩ := F_law_pen
  obtain ⟨fd_law_draw, F_law_draw⟩ := F_law_draw
  obtain ⟨fd_law_pick, F_law_pick⟩ := F_law_pick
  obtain ⟨fd_law_raised, F_law_raised⟩ := F_law_raised
  obtain ⟨fd_law_kinds, F_law_kinds⟩ := F_law_kinds
  obtain ⟨fd_law_fields, F_law_fields⟩ := F_law_fields
  obtain ⟨fd_law_caught, F_law_caught⟩ := F_law_caught
  obtain ⟨fdlaw, Flaw⟩ := Flaw
  obtain ⟨fdP, FP⟩ := FP
  have kk : ∀ i, i < 15 → _ := lt15 (List.all_eq_true.mp kt)
  have T : ErrTxt l.prog K mg (fun k => ([C0, C1, C2, C3, C4, C5, C6, C7, C8, C9, C10, C11, C12, C13, C14] : List Addr).getD k 0) CM :=
    { e_BadText := e0, e_TooMany := e1, e_NotRun := e2, e_NotComplete := e3, e_NoRun := e4, e_BadMode := e5, e_BadLine := e6, e_BadValue := e7, e_WrongMode := e8, e_NoStretch := e9, e_Unlike := e10, e_NoBest := e11, e_Refused := e12, e_NoGuard := e13, e_NothingLeft := e14, xc := fun k hk => (errB_ok (and_l (kk k hk))).2.2.2.2.2.2.2.2.1, xf := fun k hk => (errB_ok (and_l (kk k hk))).2.2.2.2.2.2.2.2.2.1,
      kit := fun i j hi hj => of_decide_eq_true (List.all_eq_true.mp (and_r (and_r (and_r (kk i hi)))) j (List.mem_range.mpr hj)), kitV := fun i hi => and_d (and_r (kk i hi)), exm := fun i hi => and_d (and_r (and_r (kk i hi))),
      g_ModeError := PySem.W.mg_of X G aM, xn := fun k hk => (errB_ok (and_l (kk k hk))).2.2.2.2.2.2.2.2.2.2, b_isinstance := PySem.W.mg_none_of X G z_isinstance, b_ValueError := PySem.W.mg_none_of X G z_ValueError }
  have b_law_pen := F_law_pen.binds (ps := P__law_pen) fun _ _ _ _ _ _ us hl => match us, hl with | [_], _ => rfl
  have b_law_draw := F_law_draw.binds (ps := P__law_draw) fun _ _ _ _ _ _ us hl => match us, hl with | [_, _], _ => rfl
  have b_law_pick := F_law_pick.binds (ps := P__law_pick) fun _ _ _ _ _ _ us hl => match us, hl with | [_, _], _ => rfl
  have b_law_raised := F_law_raised.binds (ps := P__law_raised) fun _ _ _ _ _ _ us hl => match us, hl with | [_, _, _, _], _ => rfl
  have b_law_kinds := F_law_kinds.binds (ps := P__law_kinds) fun _ _ _ _ _ _ us hl => match us, hl with | [_], _ => rfl
  have b_law_fields := F_law_fields.binds (ps := P__law_fields) fun _ _ _ _ _ _ us hl => match us, hl with | [_, _], _ => rfl
  have b_law_caught := F_law_caught.binds (ps := P__law_caught) fun _ _ _ _ _ _ us hl => match us, hl with | [_, _, _, _], _ => rfl
  have bP := FP.binds (ps := P_Paper___init__) fun _ _ _ _ _ _ us hl => match us, hl with | [_, _, _], _ => rfl
  have TP : PenTxt mg := ⟨PySem.W.mg_none_of X G z_len, PySem.W.mg_none_of X G z_int, PySem.W.mg_none_of X G z_list⟩
  obtain ⟨_, _, _, _, _, _, _, _, _, elaw, _, _⟩ := Flaw.ex
  refine ⟨fdlaw, fun s v => by rw [elaw]; exact .of_eq rfl, fun base _ _ => ?_⟩
  have c__law_pen : Cal l.prog w K mg base 1 "_law_pen" (sp_pen K) := ⟨_, _, _, fn_cx (ok_pen F_law_pen TP), PySem.W.mg_of X G a_law_pen, F_law_pen.kp, b_law_pen⟩
  have c__law_draw : Cal l.prog w K mg base 1 "_law_draw" sp_draw := ⟨_, _, _, fn_cx (ok_draw F_law_draw TP), PySem.W.mg_of X G a_law_draw, F_law_draw.kp, b_law_draw⟩
  have c__law_pick : Cal l.prog w K mg base 2 "_law_pick" (sp_pick K) := ⟨_, _, _, ok_pick F_law_pick TP c__law_draw, PySem.W.mg_of X G a_law_pick, F_law_pick.kp, b_law_pick⟩
  have c__law_raised : Cal l.prog w K mg base 3 "_law_raised" (sp_raised _) := ⟨_, _, _, ok_raised F_law_raised T, PySem.W.mg_of X G a_law_raised, F_law_raised.kp, b_law_raised⟩
  have c__law_kinds : CalP l.prog w K mg base 1 "_law_kinds" (sp_kinds _) := ⟨_, _, _, ok_kinds F_law_kinds T, PySem.W.mg_of X G a_law_kinds, F_law_kinds.kp, b_law_kinds⟩
  have c__law_fields : CalP l.prog w K mg base 1 "_law_fields" (sp_fields _) := ⟨_, _, _, ok_fields F_law_fields T, PySem.W.mg_of X G a_law_fields, F_law_fields.kp, b_law_fields⟩
  have c__law_caught : Cal l.prog w K mg base 4 "_law_caught" sp_caught := ⟨_, _, _, ok_caught F_law_caught T c__law_raised c__law_kinds c__law_fields, PySem.W.mg_of X G a_law_caught, F_law_caught.kp, b_law_caught⟩
  have c_Paper : CalM l.prog w K mg base 1 "Paper" CP (sp_paper CP) := ⟨_, _, _, ⟨mkP, iP, fnP, kP⟩, ok_paper FP ⟨PySem.W.mg_none_of X G z_tuple, ⟨pgP, hdP, poP, saP⟩, n1P, n2P⟩, PySem.W.mg_of X G aP, bP⟩
  exact ok_law Flaw ⟨PySem.W.mg_none_of X G z_range, PySem.W.mg_none_of X G z_min, PySem.W.mg_none_of X G z_len⟩ c__law_pen c__law_draw c__law_pick c__law_caught c_Paper
theorem walk {l : PySem.W.OpenLaw} {q : Program} {loose : List Str} {XP : (Str → Option Value) → Heap → Prop} {YP : World → Heap → Prop} {d : DefRec} {K : Params → PySem.W.Frag} (hn : l.most = some 63) (hdf : d.params.defaults = [])
    (hY : ∀ (w : World) (h : Heap), YP w h → (K w.params).In h)
    (F : ∀ (w : World) (mg : Str → Option Value) (fa : Addr) (h : Heap), (K w.params).In h → h.Ns mainGlobals mg → mg d.name = some (.ref fa) →
      ∃ fd : FuncData, (∀ (s : Shared) (u : Value), BindsTo s fd ⟨[u], []⟩ [("_law_script", u)]) ∧ ∀ base : Heap, (K w.params).In base → base.Ns mainGlobals mg → FnOk l.prog w (K w.params) mg base CX0 5 fa fd P_law (sp_law (K w.params))) :
    PySem.W.WalkO q loose XP YP l.row.toRowW d [] (fun f vs => PySem.call f vs) :=
  L2.walk_of (n := 63) (k := 5) (x := "_law_script") (CX := fun _ => CX0) (sp := fun w => sp_law (K w.params)) hn (by decide) hdf ⟨rfl, by decide, by decide⟩ hY F (fun _ _ a ns hl _ hS => ⟨a, ns, rfl, hS, hl, fun _ => rfl⟩) fun _ _ _ _ _ z => z
end MP
open PySem PySem.W PyProof.Rows
local macro_rules | `(tactic| walk_at "sup") => `(tactic| (refine' MPX.supC_mk ?eB ?xL ?bV ?iC ?tI ?top ?lF ?cF ?lC ?v2 ?mf ?lc ?a1 ?a2 ?bd ?n1 ?n2 ?n3 ?n4 ?co ?ge ?ki; (case iC => k_is); (case xL => k_is); (case bV => kernel_rfl); (case tI => k_is); (case lF => k_is); (case cF => k_is); (case lC => k_is); (case v2 => rfl); (case lc => k_is); (case a1 => rfl); (case a2 => rfl); (case mf => kernel_rfl); (case top => kernel_rfl); (case n1 => rfl); (case n2 => rfl); (case n3 => decide +kernel); (case n4 => decide +kernel); (case co => rfl); (case ge => rfl); (case ki => rfl); (case eB => kernel_rfl)))
local macro_rules | `(tactic| walk_at "fun") => `(tactic| (refine' ⟨_, L2.fun_mk ?l ?c ?k⟩; (case l => k_is); (case c => k_is); (case k => k_is)))
theorem PySem.Challenge.cw_modeplaces_k10_errors_holds : PySem.Challenge.rw_modeplaces_k10_errors.Holds := by
  w_on; o_law; k_head; (case hw => w_witness2)
  k_fill
  refine MP.walk (l := PySem.Challenge.rw_modeplaces_k10_errors) rfl rfl (fun w h Y => PySem.W.kIn_of Y) ?F
  case F =>
    intro w mg fa h KX G hmg
    refine' MP.all_mk KX G hmg ?a_law_pen ?F_law_pen ?a_law_draw ?F_law_draw ?a_law_pick ?F_law_pick ?a_law_raised ?F_law_raised ?a_law_kinds ?F_law_kinds ?a_law_fields ?F_law_fields ?a_law_caught ?F_law_caught ?alaw ?Flaw ?e0 ?e1 ?e2 ?e3 ?e4 ?e5 ?e6 ?e7 ?e8 ?e9 ?e10 ?e11 ?e12 ?e13 ?e14 ?aM ?kt ?aP ?iP ?FP ?mkP ?fnP ?kP ?pgP ?hdP ?poP ?saP ?n1P ?n2P ?z_isinstance ?z_ValueError ?z_tuple ?z_range ?z_min ?z_len ?z_list ?z_int
    (case a_law_pen => k_is); (case F_law_pen => walk_at "fun")
    (case a_law_draw => k_is); (case F_law_draw => walk_at "fun")
    (case a_law_pick => k_is); (case F_law_pick => walk_at "fun")
    (case a_law_raised => k_is); (case F_law_raised => walk_at "fun")
    (case a_law_kinds => k_is); (case F_law_kinds => walk_at "fun")
    (case a_law_fields => k_is); (case F_law_fields => walk_at "fun")
    (case a_law_caught => k_is); (case F_law_caught => walk_at "fun")
    (case alaw => k_is); (case Flaw => walk_at "fun")
    (case e0 => refine' MP.exc1_mk KX G ?aC ?su ?S ?ev ?ne ?nd ?n1; (case aC => k_is); (case su => k_is); (case S => walk_at "sup"; (case bd => exact fun us hl => match us, hl with | [_, _], _ => rfl)); (case ev => exact fun env => ⟨_, by rfl⟩); (case ne => decide +kernel); (case nd => decide +kernel); (case n1 => k_is))
    (case e1 => refine' MP.exc1_mk KX G ?aC ?su ?S ?ev ?ne ?nd ?n1; (case aC => k_is); (case su => k_is); (case S => walk_at "sup"; (case bd => exact fun us hl => match us, hl with | [_, _], _ => rfl)); (case ev => exact fun env => ⟨_, by rfl⟩); (case ne => decide +kernel); (case nd => decide +kernel); (case n1 => k_is))
    (case e2 => refine' MP.exc1_mk KX G ?aC ?su ?S ?ev ?ne ?nd ?n1; (case aC => k_is); (case su => k_is); (case S => walk_at "sup"; (case bd => exact fun us hl => match us, hl with | [_, _], _ => rfl)); (case ev => exact fun env => ⟨_, by rfl⟩); (case ne => decide +kernel); (case nd => decide +kernel); (case n1 => k_is))
    (case e3 => refine' MP.exc0_mk KX G ?aC ?su ?S ?ev; (case aC => k_is); (case su => k_is); (case S => walk_at "sup"; (case bd => exact fun us hl => match us, hl with | [_], _ => rfl)); (case ev => exact fun env => ⟨_, by rfl⟩))
    (case e4 => refine' MP.exc0_mk KX G ?aC ?su ?S ?ev; (case aC => k_is); (case su => k_is); (case S => walk_at "sup"; (case bd => exact fun us hl => match us, hl with | [_], _ => rfl)); (case ev => exact fun env => ⟨_, by rfl⟩))
    (case e5 => refine' MP.exc1_mk KX G ?aC ?su ?S ?ev ?ne ?nd ?n1; (case aC => k_is); (case su => k_is); (case S => walk_at "sup"; (case bd => exact fun us hl => match us, hl with | [_, _], _ => rfl)); (case ev => exact fun env => ⟨_, by rfl⟩); (case ne => decide +kernel); (case nd => decide +kernel); (case n1 => k_is))
    (case e6 => refine' MP.exc1_mk KX G ?aC ?su ?S ?ev ?ne ?nd ?n1; (case aC => k_is); (case su => k_is); (case S => walk_at "sup"; (case bd => exact fun us hl => match us, hl with | [_, _], _ => rfl)); (case ev => exact fun env => ⟨_, by rfl⟩); (case ne => decide +kernel); (case nd => decide +kernel); (case n1 => k_is))
    (case e7 => refine' MP.exc1_mk KX G ?aC ?su ?S ?ev ?ne ?nd ?n1; (case aC => k_is); (case su => k_is); (case S => walk_at "sup"; (case bd => exact fun us hl => match us, hl with | [_, _], _ => rfl)); (case ev => exact fun env => ⟨_, by rfl⟩); (case ne => decide +kernel); (case nd => decide +kernel); (case n1 => k_is))
    (case e8 => refine' MP.exc2_mk KX G ?aC ?su ?S ?ev ?ne ?nd ?nd2 ?n1 ?n2; (case aC => k_is); (case su => k_is); (case S => walk_at "sup"; (case bd => exact fun us hl => match us, hl with | [_, _, _], _ => rfl)); (case ev => exact fun env => ⟨_, by rfl⟩); (case ne => decide +kernel); (case nd => decide +kernel); (case nd2 => decide +kernel); (case n1 => k_is); (case n2 => k_is))
    (case e9 => refine' MP.exc0_mk KX G ?aC ?su ?S ?ev; (case aC => k_is); (case su => k_is); (case S => walk_at "sup"; (case bd => exact fun us hl => match us, hl with | [_], _ => rfl)); (case ev => exact fun env => ⟨_, by rfl⟩))
    (case e10 => refine' MP.exc0_mk KX G ?aC ?su ?S ?ev; (case aC => k_is); (case su => k_is); (case S => walk_at "sup"; (case bd => exact fun us hl => match us, hl with | [_], _ => rfl)); (case ev => exact fun env => ⟨_, by rfl⟩))
    (case e11 => refine' MP.exc1_mk KX G ?aC ?su ?S ?ev ?ne ?nd ?n1; (case aC => k_is); (case su => k_is); (case S => walk_at "sup"; (case bd => exact fun us hl => match us, hl with | [_, _], _ => rfl)); (case ev => exact fun env => ⟨_, by rfl⟩); (case ne => decide +kernel); (case nd => decide +kernel); (case n1 => k_is))
    (case e12 => refine' MP.exc1_mk KX G ?aC ?su ?S ?ev ?ne ?nd ?n1; (case aC => k_is); (case su => k_is); (case S => walk_at "sup"; (case bd => exact fun us hl => match us, hl with | [_, _], _ => rfl)); (case ev => exact fun env => ⟨_, by rfl⟩); (case ne => decide +kernel); (case nd => decide +kernel); (case n1 => k_is))
    (case e13 => refine' MP.exc1_mk KX G ?aC ?su ?S ?ev ?ne ?nd ?n1; (case aC => k_is); (case su => k_is); (case S => walk_at "sup"; (case bd => exact fun us hl => match us, hl with | [_, _], _ => rfl)); (case ev => exact fun env => ⟨_, by rfl⟩); (case ne => decide +kernel); (case nd => decide +kernel); (case n1 => k_is))
    (case e14 => refine' MP.exc0_mk KX G ?aC ?su ?S ?ev; (case aC => k_is); (case su => k_is); (case S => walk_at "sup"; (case bd => exact fun us hl => match us, hl with | [_], _ => rfl)); (case ev => exact fun env => ⟨_, by rfl⟩))
    (case aM => k_is); (case kt => kernel_rfl)
    (case aP => k_is); (case iP => k_is); (case FP => walk_at "fun"); (case mkP => k_is); (case fnP => k_is); (case kP => k_is); (case pgP => k_is); (case hdP => k_is); (case poP => k_is); (case saP => k_is); (case n1P => k_is); (case n2P => k_is)
    (case z_isinstance => k_is); (case z_ValueError => k_is); (case z_tuple => k_is); (case z_range => k_is); (case z_min => k_is); (case z_len => k_is); (case z_list => k_is); (case z_int => k_is)
