import PyProof.Rows.All
import Wide.All
import OpenK.AllK
import Wide.FinOn
import PyProof.EqAt
import PyProof.EqKinds
import PyProof.TupleCall
import KE.KExcSuper
import HandS.ForExc
import HandS.ExcInit
import HandS.ExcSuper
import HandS.HotCalls
import HandS.ExcIs
import HandS.ExcField
import KE.KExcIs
import HandS.ForMost
import HandS.Wide
import HandS.TupAny
import HandS.Star
import HandS.DictComp
import HandS.Flow
import HandS.IsInst
import HandS.MakeKw
import HandS.OwnEq
import HandS.Walk
import PySem.Challenge.RW_modeplaces_k14_arguments_by_name
import HandS.DeepEq
import HandS.Style
import KE.KRevSl
import KE.GoesEnumKw
import KE.GoesMore
import PyProof.Rows.CallKwBuiltin
import PyProof.Rows.CallKw2
import KE.GoesEnum
import KE.KEqSeq
import HandS.ClsMeth
import HandS.MakeKwOnly
import PyProof.StrBlock2
set_option Elab.async false
set_option linter.all false
set_option maxRecDepth 100000
set_option maxHeartbeats 4000000
section
namespace MPX
open PySem PySem.W PySem.Calls PyProof.Rows PySem.Spec
abbrev VEs : List Value := [.type "ValueError", .type "Exception", .type "BaseException", .type "object"]
/-- what the written part says of an own exception class at C whose __init__ (at fI) begins with super().__init__(a text) -/
structure SupC (prog : Program) (K : Frag) (C fI : Addr) (ps : List Str) (body : List Stmt) : Prop where
  cls : ∃ nm q N bs bm sn sub ab col dd k0 k1 k2 k3 k5, K.lookup C = some (excClassObj nm q C N bs bm true sn sub ab col dd k0 k1 k2 k3 k5 "ValueError.__new__") ∧ HandSPX.refsVE bm = true
  sa : findIn K (.ref C) "__setattr__" = some (some (.builtin "object.__setattr__"))
  iC : findIn K (.ref C) "__init__" = some (some (.ref fI))
  tI : typeIn K (.ref fI) = some (.type "function")
  kC : keepIn K (.ref C) = true
  exC : subIn K (.ref C) (.type "BaseException") = some true
  veC : subIn K (.ref C) (.type "ValueError") = some true
  tyC : typeIn K (.ref C) = some (.type "type")
  sup : ks_superIn K C C "__init__" = some (some (.builtin "ValueError.__init__"))
  slf : mroIn K C (.ref C) = some true
  opq : nsIn K cStatics "thirdparty.any" = some none
  top : (prog.main.scope.names.lookup ("super" : Str)).isSome = false
  fn : ∃ (qual : Str) (params : Arguments) (scope : Scope) (oc : Value) (od : Option Addr) (dV kV doc pm ct : Value) (an : Option Addr) (osl : Array (Option Value)) (cda cc : Addr) (ccl cl : Value) (cdd cld : Option Addr) (ccs csl : Array (Option Value)) (vs : Array Value) (file : Str) (tf : Tok) (ar : Arg),
    K.lookup fI = some ⟨oc, od, .func (ksFn "__init__" qual params body scope dV kV doc pm an (.ref cda) ct cc), osl⟩ ∧ codeIn K (.ref cda) qual = true ∧
    K.lookup cda = some ⟨ccl, cdd, .fields vs, ccs⟩ ∧ vs[2]? = some (.str file tf) ∧ ((prog.main.file : Str) == file) = true ∧ K.lookup cc = some ⟨cl, cld, .cell (some (.ref C)), csl⟩ ∧
    (params.posonlyargs ++ params.args).head? = some ar ∧ ar.arg = "self" ∧ (∀ us : List Value, us.length = ps.length → bindArgs (ksFn "__init__" qual params body scope dV kV doc pm an (.ref cda) ct cc) ⟨us, []⟩ = pure (ps.zip us)) ∧
    scope.names.lookup ("super" : Str) = some .globalImplicit ∧ scope.names.lookup ("__class__" : Str) = some .free ∧ (∀ y ∈ ps, scope.names.lookup y = some .local) ∧ (∀ x ∈ scope.names, x.2 ≠ .cell) ∧ scope.isCoroutine = false ∧ scope.isGenerator = false ∧ scope.kind = .function
/-- what the module's own names are, over some heap -/
structure ModIn (h : Heap) (mg : Str → Option Value) : Prop where
  glob : h.Ns mainGlobals mg
  blt : ∃ mb, h.Ns builtinsNs mb ∧ ∀ x : Str, x ≠ "__name__" → mb x = bootBuiltins x
  nolimit : h.NoLimit
section
variable {prog : Program} {w : World} {A : Around} {E : Value → Shared → Prop} {h : Heap} {g : Array GenState} {d : Drawn} {t : Nat} {os : OsState}
variable {nm q : Str} {C N : Addr} {bs bm : List Value} {sn : List Str} {sub : List Value} {ab : Bool} {col : Option Bool} {dd : Option Addr} {k0 k1 k2 k3 k5 : Option Value}
theorem sup_call {u e t0 : Addr} {rest : List Value} {Q : Value → Shared → Prop}
    (hC : h.get? C = some (excClassObj nm q C N bs bm true sn sub ab col dd k0 k1 k2 k3 k5 "ValueError.__new__")) (he : h.get? e = some (HandSPX.excO C t0)) (hu : h.get? u = some (kxs_mw "ValueError.__init__" e)) (hrest : rest.length ≤ sizeLine)
    (hq : ∀ h' t1, (∀ b o, b ≠ e → h.get? b = some o → h'.get? b = some o) → h'.get? e = some (HandSPX.excO C t1) → Q .none ⟨h', g, d, t, os⟩) :
    wpAny (model prog w) A (call (.ref u) rest) Q E ⟨h, g, d, t, os⟩ := by
  refine wpAny_call (codeAny_of_tree ?_)
  show wpAny _ A.in1 (callAny (.ref u) ⟨rest, []⟩) _ _ _
  simp only [callAny]
  refine wpAny_bind (wpAny_load hu ?_)
  simp only [kxs_mw, show (Value.type "method-wrapper" == Value.type "method" || Value.type "method-wrapper" == Value.type "builtin_function_or_method" || Value.type "method-wrapper" == Value.type "method-wrapper") = true by decide, if_true]
  refine KFB.if_so (by decide) ?_
  refine wpAny_bind (check_bound_init F.excBase_ValueError.toExcCallFacts hC he rfl ?_)
  refine wpAny_bind (wpAny_pure (wpAny_pure ?_))
  refine ⟨plainId_quiet F.excBase_ValueError.init.plain _, codeAny_builtin F.excBase_ValueError.initEntry ?_⟩
  exact exc_init_tree (cls := .ref C) (t0 := t0) (dv := none) (c2 := .none) (c3 := .none) (b4 := .bool false) he hrest fun h' k e' _ => hq h' _ k e'
end
/-- how super().__init__(m) is evaluated (by rfl where it stands) -/
def SupEv (m : Str) (j : Nat) (p0 p1 p2 p3 p4 : Pos) : Prop := ∀ env, ∃ pl, eval (.Call (.Attribute (.Call (.Name "super" p0) [] [] p1) "__init__" p2) [.Constant (.str m) j p3] [] p4) env = (do
  let ov ← attributeBase (.Call (.Name "super" p0) [] [] p1) "__init__" env (eval (.Call (.Name "super" p0) [] [] p1) env)
  standAt p2.atName
  let (f, first) ← holding [ov] (getMethod ov "__init__" pl)
  callWith p4 f first (backTo p4 (starEach [.Constant (.str m) j p3] env)) [])
/-- the first row: super().__init__('..') -/
def supRow (m : Str) (j : Nat) (p0 p1 p2 p3 p4 p5 : Pos) : Stmt := .Expr (.Call (.Attribute (.Call (.Name "super" p0) [] [] p1) "__init__" p2) [.Constant (.str m) j p3] [] p4) p5
section
variable {prog : Program} {w : World} {A : Around} {R : Result → Shared → Prop} {K : Frag} {mg : Str → Option Value} {C fI : Addr} {ps : List Str} {rest : List Stmt} {m : Str} {j : Nat} {p0 p1 p2 p3 p4 p5 : Pos}
/-- __init__ of a fresh exception up to behind its first row -/
theorem sup_head {s : Shared} {x t0 : Addr} {us : List Value} (T : SupC prog K C fI ps (supRow m j p0 p1 p2 p3 p4 p5 :: rest)) (X : K.In s.heap) (G : ModIn s.heap mg) (hsup : mg "super" = none)
    (hev : SupEv m j p0 p1 p2 p3 p4)
    (hx : s.heap.get? x = some (HandSPX.excO C t0)) (hnx : K.lookup x = none) (hroom : A.depth < recursionLimit) (hlen : (Value.ref x :: us).length = ps.length) (hps : ps.head? = some ("self" : Str)) (hnd : ps.Nodup)
    (hq : ∀ (env : Env) h1 t1 tk, (∀ b o, b ≠ x → s.heap.get? b = some o → h1.get? b = some o) → h1.get? x = some (HandSPX.excO C t1) → K.In h1 → h1.Ns env.locals (fun y => (ps.zip (Value.ref x :: us)).reverse.lookup y) → (env.frame = some env.locals) → x < env.locals →
      env.scope.kind = .function → (∀ y ∈ ps, env.kindOf y = some .local) → s.heap.objs.size ≤ env.locals →
      wpAny (model prog w) (A.deeper env) (execs rest env) (fun f s' => R (.ok (.ret (match f with | .ret v => v | _ => .none))) s') (fun e s' => wpAny (model prog w) (A.deeper env) (leaving env e) (fun _ s'' => R (.error e) s'') (fun e' s'' => R (.error e') s'') s') { s with heap := h1, toks := tk }) :
    codeAny (model prog w) A (.call (.ref fI) ⟨.ref x :: us, []⟩) R s := by
  obtain ⟨nm, q, N, bs, bm, sn, sub, ab, col, dd, k0, k1, k2, k3, k5, hC, hbm⟩ := T.cls
  obtain ⟨qual, params, scope, oc, od, dV, kV, doc, pm, ct, an, osl, cda, cc, ccl, cl, cdd, cld, ccs, csl, vs, file, tf, ar, ho, hcd, hcode, hvs, hfile, hcell, hp, har, hbind, hks, hkc, hka, hnc, hco, hgen, hk⟩ := T.fn
  have hcl : clsIn K C = some { name := nm, bases := bs, mro := .ref C :: bm, ns := N, qualname := q, hasDict := true, slotNames := sn, subclasses := sub, abstract := ab, collection := col, hasDel := false } := by unfold clsIn; rw [hC] <;> rfl
  have hself : ("self" : Str) ∈ ps := List.mem_of_mem_head? (by rw [hps]; exact rfl)
  refine ks_codeAny_call_defAt (fd := ksFn "__init__" qual params (supRow m j p0 p1 p2 p3 p4 p5 :: rest) scope dV kV doc pm an (.ref cda) ct cc) (body := supRow m j p0 p1 p2 p3 p4 p5 :: rest) (binds := ps.zip (.ref x :: us)) hroom (X _ _ ho) rfl G.nolimit (codeRec_of X hcd) rfl (BindsTo.of_eq (hbind _ hlen)) hnc
    (fun y hy => hka y.1 (List.of_mem_zip hy).1) (fun h₁ hns hk₁ => ?_) hco hgen hk
  have X₁ : K.In h₁ := X.keeps hk₁
  have hx₁ := hk₁ _ _ hx
  have I₁ : InstAt h₁ x (HandSPX.excO C t0) C none := ⟨hx₁, rfl, rfl, trivial⟩
  have hxC : x ≠ C := ks_ne X₁ I₁ hcl
  obtain ⟨mb, hb1, hb2⟩ := G.blt
  have hvself : ((ps.zip (Value.ref x :: us)).reverse.lookup ("self" : Str)) = some (.ref x) := by
    cases ps with
    | nil => cases hps
    | cons a r =>
      cases hps
      have hnot : ∀ l : List (Str × Value), ("self" : Str) ∉ l.map (·.1) → (l ++ [(("self" : Str), Value.ref x)]).lookup ("self" : Str) = some (.ref x) := by
        intro l
        induction l with
        | nil => intro _; simp [List.lookup]
        | cons p l ih =>
          intro hn
          have h1 : ("self" : Str) ≠ p.1 := fun z => hn (by rw [z]; exact List.mem_cons_self ..)
          have h2 : (("self" : Str) == p.1) = false := by simpa using h1
          have := ih (fun z => hn (List.mem_cons_of_mem _ z))
          rw [List.cons_append]
          obtain ⟨pa, pb⟩ := p
          simp only [List.lookup]
          rw [h2]
          exact this
      rw [List.zip_cons_cons, List.reverse_cons]
      refine hnot _ fun z => ?_
      rw [List.map_reverse, List.mem_reverse] at z
      obtain ⟨p, hp1, hp2⟩ := List.mem_map.mp z
      have := (List.of_mem_zip hp1).1
      rw [hp2] at this
      exact (List.nodup_cons.mp hnd).1 this
  obtain ⟨pl, hev⟩ := hev (ksEnv qual scope s.heap.objs.size fI (.ref cda) cc)
  have hint : interactive (ksEnv qual scope s.heap.objs.size fI (.ref cda) cc) = false := by
    show (scope.kind == .module && _) = false
    rw [hk]
    rfl
  refine ks_wpAt_execs_cons (ks_wpAt_Expr_any (hi := hint) (ks_wpAt_MethodCall (pl := pl) ?_ hev))
  refine ks_wpAt_super_base (env := ksEnv qual scope s.heap.objs.size fI (.ref cda) cc) hks hkc rfl rfl (X₁ _ _ ho) rfl hp rfl (X₁ _ _ hcode) (oc := ⟨ccl, cdd, .fields vs, ccs⟩) rfl hvs hfile T.top ?_
  refine ks_loadName_global hk hks (loadGlobal_builtin (env := ksEnv qual scope s.heap.objs.size fI (.ref cda) cc) (G.glob.keeps hk₁) hsup (hb1.keeps hk₁) ((hb2 _ (by decide +kernel)).trans (show bootBuiltins "super" = some (.type "super") by decide +kernel)) ⟨rfl, ?_⟩)
  refine wpAny_loadName_free hk hkc rfl ⟨_, X₁ _ _ hcell, rfl⟩ ?_
  rw [har]
  refine wpAny_loadName_local hk (hka _ hself) hns hvself ?_
  refine ks_wpAny_isType_cls (X₁ _ _ hC) rfl ⟨rfl, ?_⟩
  refine ks_wpAny_call_super (X₁ _ _ hC) rfl hx₁ rfl (fun c e => by cases e) (looks_mroIn X₁ T.slf) (fun h₂ hso k₂ => ?_)
  have X₂ : K.In h₂ := X₁.keeps k₂
  have hx₂ := k₂ _ _ hx₁
  have I₂ : InstAt h₂ x (HandSPX.excO C t0) C none := ⟨hx₂, rfl, rfl, trivial⟩
  have hm := T.sup
  unfold ks_superIn at hm
  rw [hcl] at hm
  refine kxs_getMethod kxs_ValueError hso (looks_opaque X₂ T.opq) (l₀ := .ref C :: bm) (fun A Q E s k q => wpAny_bind ((looks_clsIn X₂ hcl) A _ E s k (wpAny_pure q))) rfl X₂ hm (I₂.type.andThen (looks_subIn X₂ T.veC)) hxC rfl ?_
  refine kxs_callWith (i := "ValueError.__init__") (x := x) rfl (evalArgs_plain ?_)
  refine Calls.spliced_cons ?_
  show wpAny _ _ (eval (.Constant (.str m) j p3) _) _ _ _
  refine Calls.Constant_str (Calls.spliced_nil ?_)
  have hnew : ∀ b o, h₂.get? b = some o → (h₂.push (kxs_mw "ValueError.__init__" x)).get? b = some o := fun b o e => Heap.get?_push_of_some _ e
  refine ⟨Heap.get?_push_at rfl rfl, ?_⟩
  refine sup_call (t0 := t0) (hnew _ _ (X₂ _ _ hC)) (hnew _ _ hx₂) (Heap.get?_push_at rfl rfl) (by show 1 ≤ sizeLine; decide) fun h₃ t1 k₃ hx₃ => ?_
  have k03 : ∀ b o, b ≠ x → s.heap.get? b = some o → h₃.get? b = some o := fun b o hb e => k₃ b o hb (hnew _ _ (k₂ _ _ (hk₁ _ _ e)))
  have X₃ : K.In h₃ := fun b o e => k₃ b o (fun z => by rw [z, hnx] at e; cases e) (hnew _ _ (X₂ _ _ e))
  have hxL : x < s.heap.objs.size := Heap.lt_size hx
  refine ks_wpAt_mono (wpAt_of_wpAny (hq (ksEnv qual scope s.heap.objs.size fI (.ref cda) cc) h₃ t1 _ k03 hx₃ X₃ ?_ rfl hxL hk (fun y hy => hka y hy) (Nat.le_refl _))) (fun _ _ z => z) fun _ _ z => z
  exact hns.at fun o e => k₃ _ _ (Nat.ne_of_gt hxL) (hnew _ _ (k₂ _ _ e))
def OwnD (h h' : Heap) (e : Addr) (d : Option Addr) (m : Str → Option Value) : Prop := match d with
  | none => True
  | some dx => h.objs.size ≤ dx ∧ dx ≠ e ∧ h'.Ns1 dx m
/-- what a made exception leaves: at e, its dict (if it has fields) at d -/
structure Made (h h' : Heap) (e C : Addr) (d : Option Addr) (m : Str → Option Value) : Prop where
  keep : ∀ b o, h.get? b = some o → h'.get? b = some o
  new : h.objs.size ≤ e
  obj : ∃ t1 : Addr, h'.get? e = some { cls := .ref C, dict := d, data := .fields #[.ref t1, .none, .none, .none, .bool false, .none] }
  own : OwnD h h' e d m
/-- a row self.f = y of such an __init__ -/
def stRow (f y : Str) (q0 q1 q2 q3 : Pos) : Stmt := .Assign [.Attribute (.Name "self" q0) f q1] (.Name y q2) q3
theorem sup_made {s : Shared} {us : List Value} (T : SupC prog K C fI ps (supRow m j p0 p1 p2 p3 p4 p5 :: rest)) (X : K.In s.heap) (G : ModIn s.heap mg) (hsup : mg "super" = none)
    (hev : SupEv m j p0 p1 p2 p3 p4)
    (hroom : A.depth + 1 < recursionLimit) (hlen : us.length + 1 = ps.length) (hz : us.length ≤ 8) (hps : ps.head? = some ("self" : Str)) (hnd : ps.Nodup)
    (hq : ∀ (x : Addr) (B : Around) (env : Env) (h0 h1 : Heap) t1 tk (R' : Result → Shared → Prop), (∀ b o, s.heap.get? b = some o → h1.get? b = some o) → s.heap.objs.size ≤ x → h1.get? x = some (HandSPX.excO C t1) → K.In h1 → h1.Ns env.locals (fun y => (ps.zip (Value.ref x :: us)).reverse.lookup y) → x < env.locals →
      env.scope.kind = .function → (∀ y ∈ ps, env.kindOf y = some .local) → K.lookup x = none →
      (∀ h' tk' d mm, (∀ b o, s.heap.get? b = some o → h'.get? b = some o) → (∃ t2 : Addr, h'.get? x = some { cls := .ref C, dict := d, data := .fields #[.ref t2, .none, .none, .none, .bool false, .none] }) → OwnD s.heap h' x d mm →
        (∀ h'' tk'' e, Made s.heap h'' e C d mm → R (.ok (.ret (.ref e))) { s with heap := h'', toks := tk'' }) → R' (.ok (.ret .none)) { s with heap := h', toks := tk' }) →
      wpAny (model prog w) B (execs rest env) (fun f s' => R' (.ok (.ret (match f with | .ret v => v | _ => .none))) s') (fun e s' => wpAny (model prog w) B (leaving env e) (fun _ s'' => R' (.error e) s'') (fun e' s'' => R' (.error e') s'') s') { s with heap := h1, toks := tk }) :
    codeAny (model prog w) A (.call (.ref C) ⟨us, []⟩) R s := by
  obtain ⟨nm, q, N, bs, bm, sn, sub, ab, col, dd, k0, k1, k2, k3, k5, hC, hbm⟩ := T.cls
  obtain ⟨hp, g, dr, tk, os⟩ := s
  have k : ∀ b o, hp.get? b = some o → ((hp.push (kdv_tup us)).push (HandSPX.excO C hp.objs.size)).get? b = some o := fun b o e => Heap.get?_push_of_some _ (Heap.get?_push_of_some _ e)
  have hget : ((hp.push (kdv_tup us)).push (HandSPX.excO C hp.objs.size)).get? (hp.objs.size + 1) = some (HandSPX.excO C hp.objs.size) := by heap_get
  have hnx : K.lookup (hp.objs.size + 1) = none := by
    cases e : K.lookup (hp.objs.size + 1) with
    | none => rfl
    | some o =>
      have z : hp.get? (hp.objs.size + 1) = some o := X _ _ e
      exact absurd (Nat.lt_of_succ_lt (Heap.lt_size z)) (Nat.lt_irrefl _)
  have hus : us.length ≤ sizeLine := Nat.le_trans hz (by decide)
  refine HandSPX.call_own F.excBase_ValueError (fun Y => HandSPX.refsVE_contains Y bm hbm) (X _ _ hC) (looks_findIn X T.iC) (fun self => bind_fn X self T.tI) hus ?_
  have G' : ModIn ((hp.push (kdv_tup us)).push (HandSPX.excO C hp.objs.size)) mg := by
    obtain ⟨mb, b1, b2⟩ := G.blt
    exact ⟨G.glob.keeps k, ⟨mb, b1.keeps k, b2⟩, G.nolimit.keeps k⟩
  refine sup_head (s := ⟨(hp.push (kdv_tup us)).push (HandSPX.excO C hp.objs.size), g, dr, tk, os⟩) T (X.keeps k) G' hsup hev hget hnx ?_ (by simpa using hlen) hps hnd (fun env h1 t1 tk1 k1 hx1 X1 n1 f1 l1 e1 e2 s1 => ?_)
  · show A.depth + 1 < recursionLimit
    exact hroom
  · have old : ∀ b o, hp.get? b = some o → h1.get? b = some o := fun b o e => k1 b o (Nat.ne_of_lt (Nat.lt_succ_of_lt (Heap.lt_size e))) (k b o e)
    refine hq (hp.objs.size + 1) _ env hp h1 t1 tk1 (InitBack (hp.objs.size + 1) R) old (Nat.le_succ _) hx1 X1 n1 l1 e1 e2 hnx (fun h' tk' d mm ko ho hd hR => ?_)
    refine ⟨rfl, hR h' tk' (hp.objs.size + 1) ⟨ko, Nat.le_succ _, ho, ?_⟩⟩
    exact hd
section
variable {q0 q1 q2 q3 r0 r1 r2 r3 : Pos} {f1 f2 y1 y2 : Str}
theorem lookup2 {a : Str} {x v : Value} (h : a ≠ "self") : (([("self", a)].map (·.1)).zip [x]).length = 1 := rfl
/-- C() -/
theorem made0 {s : Shared} (T : SupC prog K C fI ["self"] [supRow m j p0 p1 p2 p3 p4 p5]) (X : K.In s.heap) (G : ModIn s.heap mg) (hsup : mg "super" = none)
    (hev : SupEv m j p0 p1 p2 p3 p4)
    (hroom : A.depth + 1 < recursionLimit) (hR : ∀ h' tk' e, Made s.heap h' e C none (fun _ => none) → R (.ok (.ret (.ref e))) { s with heap := h', toks := tk' }) : codeAny (model prog w) A (.call (.ref C) ⟨[], []⟩) R s := by
  refine sup_made (us := []) T X G hsup hev hroom rfl (by decide) rfl (by decide +kernel) (fun x B env h0 h1 t1 tk R' ko hs hx X1 n1 l1 e1 e2 hnx hq => ?_)
  exact wpAny_execs_nil (hq h1 tk none (fun _ => none) ko ⟨t1, hx⟩ True.intro hR)
/-- C(v) -/
theorem made1 {s : Shared} {v : Value} (T : SupC prog K C fI ["self", y1] [supRow m j p0 p1 p2 p3 p4 p5, stRow f1 y1 q0 q1 q2 q3]) (X : K.In s.heap) (G : ModIn s.heap mg) (hsup : mg "super" = none)
    (hev : SupEv m j p0 p1 p2 p3 p4)
    (hn1 : findIn K (.ref C) f1 = some none) (hy : ("self" : Str) ≠ y1) (hd1 : (y1 == ("__debug__" : Str)) = false)
    (hroom : A.depth + 1 < recursionLimit) (hR : ∀ h' tk' e d, Made s.heap h' e C (some d) (fun y => if y = f1 then some v else none) → R (.ok (.ret (.ref e))) { s with heap := h', toks := tk' }) : codeAny (model prog w) A (.call (.ref C) ⟨[v], []⟩) R s := by
  refine sup_made (us := [v]) T X G hsup hev hroom rfl (by show 1 ≤ 8; decide) rfl (by simpa using hy) (fun x B env h0 h1 t1 tk R' ko hs hx X1 n1 l1 e1 e2 hnx hq => ?_)
  obtain ⟨nm, q, N, bs, bm, sn, sub, ab, col, dd, k0, k1, k2, k3, k5, hC, hbm⟩ := T.cls
  have hcl : clsIn K C = some { name := nm, bases := bs, mro := .ref C :: bm, ns := N, qualname := q, hasDict := true, slotNames := sn, subclasses := sub, abstract := ab, collection := col, hasDel := false } := by unfold clsIn; rw [hC] <;> rfl
  have v1 : (((["self", y1] : List Str).zip [Value.ref x, v]).reverse.lookup y1) = some v := by simp [List.lookup]
  have v0 : (((["self", y1] : List Str).zip [Value.ref x, v]).reverse.lookup ("self" : Str)) = some (Value.ref x) := by
    have z : (("self" : Str) == y1) = false := by simpa using hy
    simp [List.lookup, z]
  obtain ⟨hp, g, dr, tk0, os⟩ := s
  refine wpAny_execs_cons (plainObj_wpAny_Assign_Attribute ?_ (by rfl))
  refine ESX.ldL n1 v1 (ESX.ldL n1 v0 ?_ e1 (e2 _ (by simp))) e1 (e2 _ (by simp)) hd1
  refine set_plain X1 (ox := HandSPX.excO C t1) (od := none) ⟨hx, rfl, rfl, trivial⟩ T.sa ?_
  refine HandSPX.exc_osa X1 hx hcl (show HandSPX.refsVE (.ref C :: bm) = true from hbm) rfl hn1 (fun h₃ tk₃ dx k₃ dn dne hx₃ hn₃ => ?_)
  refine wpAny_execs_nil (hq h₃ tk₃ (some dx) _ (fun b o e => k₃ b o (Nat.ne_of_lt (Nat.lt_of_lt_of_le (Heap.lt_size e) hs)) (ko b o e)) ⟨t1, hx₃⟩ ⟨?_, dne, hn₃⟩ (fun h'' tk'' e M => hR h'' tk'' e dx M))
  exact Nat.le_trans (Nat.le_of_lt (Nat.lt_of_le_of_lt hs (Heap.lt_size hx))) dn
/-- C(v, z) -/
theorem made2 {s : Shared} {v z : Value} (T : SupC prog K C fI ["self", y1, y2] [supRow m j p0 p1 p2 p3 p4 p5, stRow f1 y1 q0 q1 q2 q3, stRow f2 y2 r0 r1 r2 r3]) (X : K.In s.heap) (G : ModIn s.heap mg) (hsup : mg "super" = none)
    (hev : SupEv m j p0 p1 p2 p3 p4)
    (hn1 : findIn K (.ref C) f1 = some none) (hn2 : findIn K (.ref C) f2 = some none) (hnd : (["self", y1, y2] : List Str).Nodup) (hd1 : (y1 == ("__debug__" : Str)) = false) (hd2 : (y2 == ("__debug__" : Str)) = false)
    (hroom : A.depth + 1 < recursionLimit) (hR : ∀ h' tk' e d, Made s.heap h' e C (some d) (fun y => if y = f2 then some z else if y = f1 then some v else none) → R (.ok (.ret (.ref e))) { s with heap := h', toks := tk' }) : codeAny (model prog w) A (.call (.ref C) ⟨[v, z], []⟩) R s := by
  refine sup_made (us := [v, z]) T X G hsup hev hroom rfl (by show 2 ≤ 8; decide) rfl hnd (fun x B env h0 h1 t1 tk R' ko hs hx X1 n1 l1 e1 e2 hnx hq => ?_)
  obtain ⟨nm, q, N, bs, bm, sn, sub, ab, col, dd, k0, k1, k2, k3, k5, hC, hbm⟩ := T.cls
  have hcl : clsIn K C = some { name := nm, bases := bs, mro := .ref C :: bm, ns := N, qualname := q, hasDict := true, slotNames := sn, subclasses := sub, abstract := ab, collection := col, hasDel := false } := by unfold clsIn; rw [hC] <;> rfl
  obtain ⟨a1, a2⟩ := List.nodup_cons.mp hnd
  obtain ⟨b1, _⟩ := List.nodup_cons.mp a2
  have c1 : (("self" : Str) == y1) = false := by simpa using (fun e => a1 (by rw [e]; simp) : ("self" : Str) ≠ y1)
  have c2 : (("self" : Str) == y2) = false := by simpa using (fun e => a1 (by rw [e]; simp) : ("self" : Str) ≠ y2)
  have c3 : (y1 == y2) = false := by simpa using (fun e => b1 (by rw [e]; simp) : y1 ≠ y2)
  have v2 : (((["self", y1, y2] : List Str).zip [Value.ref x, v, z]).reverse.lookup y2) = some z := by simp [List.lookup]
  have v1 : (((["self", y1, y2] : List Str).zip [Value.ref x, v, z]).reverse.lookup y1) = some v := by simp [List.lookup, c3]
  have v0 : (((["self", y1, y2] : List Str).zip [Value.ref x, v, z]).reverse.lookup ("self" : Str)) = some (Value.ref x) := by simp [List.lookup, c1, c2]
  obtain ⟨hp, g, dr, tk0, os⟩ := s
  refine wpAny_execs_cons (plainObj_wpAny_Assign_Attribute ?_ (by rfl))
  refine ESX.ldL n1 v1 (ESX.ldL n1 v0 ?_ e1 (e2 _ (by simp))) e1 (e2 _ (by simp)) hd1
  refine set_plain X1 (ox := HandSPX.excO C t1) (od := none) ⟨hx, rfl, rfl, trivial⟩ T.sa ?_
  refine HandSPX.exc_osa X1 hx hcl (show HandSPX.refsVE (.ref C :: bm) = true from hbm) rfl hn1 (fun h₃ tk₃ dx k₃ dn dne hx₃ hn₃ => ?_)
  have X3 : K.In h₃ := fun b o e => k₃ b o (fun y => by rw [y, hnx] at e; cases e) (X1 _ _ e)
  have n3 : h₃.Ns env.locals (fun y => (((["self", y1, y2] : List Str).zip [Value.ref x, v, z]).reverse.lookup y)) := n1.at fun o e => k₃ _ _ (Nat.ne_of_gt l1) e
  have nd1 : hp.objs.size ≤ dx := Nat.le_trans (Nat.le_of_lt (Nat.lt_of_le_of_lt hs (Heap.lt_size hx))) dn
  refine wpAny_execs_cons (plainObj_wpAny_Assign_Attribute ?_ (by rfl))
  refine ESX.ldL n3 v2 (ESX.ldL n3 v0 ?_ e1 (e2 _ (by simp))) e1 (e2 _ (by simp)) hd2
  have w3 : Within (fun y => if y = f1 then some v else none) [f1] := fun y hy => by
    by_cases e : y = f1
    · rw [e]; exact List.mem_cons_self ..
    · exact absurd (by show (if y = f1 then some v else none) = none; rw [if_neg e]) hy
  obtain ⟨oD, _, _, hoD, _, _⟩ := hn₃.count w3
  refine set_plain X3 (ox := { cls := .ref C, dict := some dx, data := .fields #[.ref t1, .none, .none, .none, .bool false, .none] }) (od := some oD) ⟨hx₃, rfl, rfl, hoD⟩ T.sa ?_
  refine OEX.osa_old X3 hx₃ hn₃ w3 (by show 1 ≤ 1000; decide) hcl (show HandSPX.refsVE (.ref C :: bm) = true from hbm) rfl hn2 (fun h₄ tk₄ k₄ hn₄ => ?_)
  refine wpAny_execs_nil (hq h₄ tk₄ (some dx) _ (fun b o e => k₄ b o (Nat.ne_of_lt (Nat.lt_of_lt_of_le (Heap.lt_size e) nd1)) (k₃ b o (Nat.ne_of_lt (Nat.lt_of_lt_of_le (Heap.lt_size e) hs)) (ko b o e))) ⟨t1, k₄ _ _ (Ne.symm dne) hx₃⟩ ⟨nd1, dne, hn₄⟩ (fun h'' tk'' e M => hR h'' tk'' e dx M))
end
end
/-- the classes without, with one, with two fields -/
structure Exc0 (prog : Program) (K : Frag) (mg : Str → Option Value) (x : Str) (C : Addr) : Prop where
  ex : ∃ (fI : Addr) (m : Str) (j : Nat) (p0 p1 p2 p3 p4 p5 : Pos), SupC prog K C fI ["self"] [supRow m j p0 p1 p2 p3 p4 p5] ∧ SupEv m j p0 p1 p2 p3 p4
  gC : mg x = some (.ref C)
  su : mg "super" = none
structure Exc1 (prog : Program) (K : Frag) (mg : Str → Option Value) (x : Str) (C : Addr) (f : Str) : Prop where
  ex : ∃ (fI : Addr) (y m : Str) (j : Nat) (p0 p1 p2 p3 p4 p5 q0 q1 q2 q3 : Pos), SupC prog K C fI ["self", y] [supRow m j p0 p1 p2 p3 p4 p5, stRow f y q0 q1 q2 q3] ∧ SupEv m j p0 p1 p2 p3 p4 ∧ ("self" : Str) ≠ y ∧ (y == ("__debug__" : Str)) = false
  n1 : findIn K (.ref C) f = some none
  gC : mg x = some (.ref C)
  su : mg "super" = none
structure Exc2 (prog : Program) (K : Frag) (mg : Str → Option Value) (x : Str) (C : Addr) (f g : Str) : Prop where
  ex : ∃ (fI : Addr) (y z m : Str) (j : Nat) (p0 p1 p2 p3 p4 p5 q0 q1 q2 q3 r0 r1 r2 r3 : Pos), SupC prog K C fI ["self", y, z] [supRow m j p0 p1 p2 p3 p4 p5, stRow f y q0 q1 q2 q3, stRow g z r0 r1 r2 r3] ∧ SupEv m j p0 p1 p2 p3 p4 ∧ (["self", y, z] : List Str).Nodup ∧ (y == ("__debug__" : Str)) = false ∧ (z == ("__debug__" : Str)) = false
  n1 : findIn K (.ref C) f = some none
  n2 : findIn K (.ref C) g = some none
  gC : mg x = some (.ref C)
  su : mg "super" = none
end MPX
namespace L2
open PySem PySem.Spec PyProof.Rows MPX
section
variable {X : Cx} {C : Addr} {x f g : Str} {p pos : Pos} {k : Nat}
theorem Inv.modIn {pins : List (Addr × Obj)} {σ : St} {H : Hp} {s : Shared} (I : Inv X pins σ H s) : ModIn s.heap X.mg := by
  obtain ⟨mb, b1, b2⟩ := I.mod.blt
  exact ⟨I.mod.glob.keeps I.bk, ⟨mb, b1.keeps I.bk, b2⟩, I.nolimit⟩
/-- the made exception, without a dict -/
theorem made_mkp0 {pins : List (Addr × Obj)} {σ : St} {H : Hp} {Q : XK} {hp h' : Heap} {ge : Array GenState} {dr : Drawn} {tk tk' : Nat} {os : OsState} {e : Addr} {m : Str → Option Value} (I : Inv X pins σ H ⟨hp, ge, dr, tk, os⟩) (r : Raises X (.ref C)) (M : Made hp h' e C none m) (q : Q (.ref C) none H) :
    MkP X pins σ Q (.ref e) ⟨h', ge, dr, tk', os⟩ := by
  obtain ⟨t1, hoe⟩ := M.obj
  obtain ⟨G, g1, g2⟩ := restrict h' fun b => decide (b ≠ e)
  have gk : ∀ b, b ≠ e → G.get? b = h'.get? b := fun b hb => g1 b (decide_eq_true hb)
  have gn : G.get? e = none := g2 e (by simp)
  have old : ∀ b o, hp.get? b = some o → G.get? b = some o := fun b o z => (gk b (Nat.ne_of_lt (Nat.lt_of_lt_of_le (Heap.lt_size z) M.new))).trans (M.keep b o z)
  have J : Inv X pins σ H ⟨G, ge, dr, tk', os⟩ := I.kept old
  have up : ∀ b o, G.get? b = some o → h'.get? b = some o := fun b o z => by
    by_cases hb : b = e
    · rw [hb, gn] at z; cases z
    · exact (gk b hb).symm.trans z
  exact ⟨e, _, _, ⟨G, ge, dr, tk', os⟩, H, .ref C, none, rfl, J, up, gn, hoe, ⟨rfl, rfl⟩, rfl, rfl, I.hok.fresh M.new, rfl, I.bare, r, q⟩
theorem made_mkp1 {pins : List (Addr × Obj)} {σ : St} {H : Hp} {Q : XK} {hp h' : Heap} {ge : Array GenState} {dr : Drawn} {tk tk' : Nat} {os : OsState} {e d : Addr} {m : Str → Option Value} {fs : List (Str × V)} (I : Inv X pins σ H ⟨hp, ge, dr, tk, os⟩) (r : Raises X (.ref C)) (M : Made hp h' e C (some d) m)
    (rel : ∀ y, RelO (fs.lookup y) (m y)) (q : ∀ d, H d = none → Q (.ref C) (some d) (upd H d (.xd fs))) : MkP X pins σ Q (.ref e) ⟨h', ge, dr, tk', os⟩ := by
  obtain ⟨t1, hoe⟩ := M.obj
  obtain ⟨od1, od2, od3⟩ := M.own
  obtain ⟨G, g1, g2⟩ := restrict h' fun b => decide (b ≠ e)
  have gk : ∀ b, b ≠ e → G.get? b = h'.get? b := fun b hb => g1 b (decide_eq_true hb)
  have gn : G.get? e = none := g2 e (by simp)
  have old : ∀ b o, hp.get? b = some o → G.get? b = some o := fun b o z => (gk b (Nat.ne_of_lt (Nat.lt_of_lt_of_le (Heap.lt_size z) M.new))).trans (M.keep b o z)
  have ob : ObjOk X.prog X.w (upd H d (.xd fs)) G d (.xd fs) := ⟨_, od3.at (fun o z => (gk d od2).trans z), rel⟩
  have J : Inv X pins σ (upd H d (.xd fs)) ⟨G, ge, dr, tk', os⟩ := I.laid (t' := tk') old od1 ob
  have up : ∀ b o, G.get? b = some o → h'.get? b = some o := fun b o z => by
    by_cases hb : b = e
    · rw [hb, gn] at z; cases z
    · exact (gk b hb).symm.trans z
  refine ⟨e, _, _, ⟨G, ge, dr, tk', os⟩, _, .ref C, some d, rfl, J, up, gn, hoe, ⟨rfl, rfl⟩, rfl, rfl, ?_, rfl, I.bare, r, q d (I.hok.fresh od1)⟩
  rw [upd_ne (Ne.symm od2)]
  exact I.hok.fresh M.new
theorem sup_raises {prog : Program} {fI : Addr} {ps : List Str} {body : List Stmt} (T : SupC prog X.K C fI ps body) : Raises X (.ref C) := raises_own T.exC T.tyC
def tMk0 (C : Addr) : St → Hp → XK → Prop := fun _ H Q => Q (.ref C) none H
def tMk1 (C : Addr) (f : Str) (ta : TA) : St → Hp → XK → Prop := fun σ H Q => ta σ H fun vs H1 => ∃ v, vs = [v] ∧ ∀ d, H1 d = none → Q (.ref C) (some d) (upd H1 d (.xd [(f, v)]))
def tMk2 (C : Addr) (f g : Str) (ta : TA) : St → Hp → XK → Prop := fun σ H Q => ta σ H fun vs H1 => ∃ v z, vs = [v, z] ∧ ∀ d, H1 d = none → Q (.ref C) (some d) (upd H1 d (.xd [(g, z), (f, v)]))
theorem pmk_x0 (T : Exc0 X.prog X.K X.mg x C) (hr : Room (k + 2) X.A) (hg : Gl X x) (hdb : (x == ("__debug__" : Str)) = false := by decide) : PMk X (.Call (.Name x p) [] [] pos) (tMk0 C) := by
  obtain ⟨fI, m, j, p0, p1, p2, p3, p4, p5, S, ev⟩ := T.ex
  intro pins s σ H Q I h
  refine wpAny_Call_Name_kw (ld_glob I hg T.gC ?_ hdb)
  refine PySem.W.callWith_K0 I.kIn S.kC ?_
  obtain ⟨hp, ge, dr, tk, os⟩ := s
  exact wpAny_call (made0 S I.kIn I.modIn T.su ev (by have := hr.dp; omega) fun h' tk' e M => made_mkp0 I (sup_raises S) M h)
theorem relO_1 {f : Str} {v : V} {u : Value} (r : RelV v u) (y : Str) : RelO (([(f, v)] : List (Str × V)).lookup y) (if y = f then some u else none) := by
  by_cases e : y = f
  · rw [if_pos e, e]
    have q : List.lookup f [(f, v)] = some v := by simp [List.lookup]
    rw [q]
    exact r
  · rw [if_neg e]
    have z : (y == f) = false := by simpa using e
    simp [List.lookup, z, RelO]
theorem relO_2 {f g : Str} {v z : V} {u w : Value} (r : RelV v u) (r2 : RelV z w) (y : Str) : RelO (([(g, z), (f, v)] : List (Str × V)).lookup y) (if y = g then some w else if y = f then some u else none) := by
  by_cases e : y = g
  · rw [if_pos e, e]
    have q : List.lookup g [(g, z), (f, v)] = some z := by simp [List.lookup]
    rw [q]
    exact r2
  · rw [if_neg e]
    have zz : (y == g) = false := by simpa using e
    have q := relO_1 r y (f := f)
    simpa [List.lookup, zz] using q
theorem pmk_x1 {a : Expr} {ta : TA} (T : Exc1 X.prog X.K X.mg x C f) (hr : Room (k + 2) X.A) (ha : PA X [a] ta) (hg : Gl X x) (hdb : (x == ("__debug__" : Str)) = false := by decide)
    (he : starEach (a :: []) X.env = (false, eval a X.env) :: starEach [] X.env := by rfl) (hpl : (backTo pos (starEach [] X.env)).any (·.1) = false := by rfl) : PMk X (.Call (.Name x p) [a] [] pos) (tMk1 C f ta) := by
  obtain ⟨fI, y, m, j, p0, p1, p2, p3, p4, p5, q0, q1, q2, q3, S, ev, n, nd⟩ := T.ex
  intro pins s σ H Q I h
  refine wpAny_Call_Name_kw (ld_glob I hg T.gC ?_ hdb)
  refine PySem.W.callWith_K (h₀ := X.base) I.ok.mod.kin S.kC (thn (ha.run pos pins s σ H _ I h) fun us s1 hh => ?_) he hpl
  obtain ⟨vs, H1, I1, r1, v, e1, q⟩ := hh
  subst e1
  refine ⟨I1.kIn, ?_⟩
  obtain ⟨u, rfl, rv⟩ := vals1 r1
  obtain ⟨hp, ge, dr, tk, os⟩ := s1
  exact wpAny_call (made1 S I1.kIn I1.modIn T.su ev T.n1 n nd (by have := hr.dp; omega) fun h' tk' e d M => made_mkp1 I1 (sup_raises S) M (relO_1 rv) q)
theorem pmk_x2 {a b : Expr} {ta : TA} (T : Exc2 X.prog X.K X.mg x C f g) (hr : Room (k + 2) X.A) (ha : PA X [a, b] ta) (hg : Gl X x) (hdb : (x == ("__debug__" : Str)) = false := by decide)
    (he : starEach (a :: [b]) X.env = (false, eval a X.env) :: starEach [b] X.env := by rfl) (hpl : (backTo pos (starEach [b] X.env)).any (·.1) = false := by rfl) : PMk X (.Call (.Name x p) [a, b] [] pos) (tMk2 C f g ta) := by
  obtain ⟨fI, y, yz, m, j, p0, p1, p2, p3, p4, p5, q0, q1, q2, q3, r0, r1, r2, r3, S, ev, n, nd1, nd2⟩ := T.ex
  intro pins s σ H Q I h
  refine wpAny_Call_Name_kw (ld_glob I hg T.gC ?_ hdb)
  refine PySem.W.callWith_K (h₀ := X.base) I.ok.mod.kin S.kC (thn (ha.run pos pins s σ H _ I h) fun us s1 hh => ?_) he hpl
  obtain ⟨vs, H1, I1, r1, v, z, e1, q⟩ := hh
  subst e1
  refine ⟨I1.kIn, ?_⟩
  obtain ⟨u, w, rfl, rv, rw'⟩ := vals2 r1
  obtain ⟨hp, ge, dr, tk, os⟩ := s1
  exact wpAny_call (made2 S I1.kIn I1.modIn T.su ev T.n1 T.n2 n nd1 nd2 (by have := hr.dp; omega) fun h' tk' e d M => made_mkp1 I1 (sup_raises S) M (relO_2 rv rw') q)
end
end L2
end
section
namespace MPX
open PySem PySem.Spec PyProof.Rows L2
open L2H (RoomH PinOk cxH inv_startH)
/-- p's object: an exception of the class cls, its dict at d -/
def ExcIs (cls : Value) (d : Option Addr) (p : Addr × Obj) : Prop := Zc cls d p.2 ∧ ∃ vs, p.2.data = .fields vs
theorem pe_imp {X : Cx} {e : Expr} {t t' : TE} (h : PE X e t) (i : ∀ σ H Q, t' σ H Q → t σ H Q) : PE X e t' := ⟨fun pins s σ H Q I q => h.run pins s σ H Q I (i σ H Q q)⟩
def DOk (d : Option Addr) (fs : List (Str × V)) (H : Hp) : Prop := match d with
  | none => fs = []
  | some dd => H dd = some (.xd fs)
theorem DOk.same {d : Option Addr} {fs : List (Str × V)} {H H' : Hp} (h : DOk d fs H) (s : ∀ b o, H b = some o → H' b = some o) : DOk d fs H' := by
  cases d with
  | none => exact h
  | some dd => exact s _ _ h
section
variable {X : Cx} {C a : Addr} {d : Option Addr} {p : Addr × Obj} {fs : List (Str × V)}
theorem inst_of {pins : List (Addr × Obj)} {σ : L2.St} {H : Hp} {s : Shared} (I : Inv X pins σ H s) (hp : p ∈ X.pn) (hz : ExcIs (.ref C) d p) (hd : DOk d fs H) : ∃ od, PySem.W.InstAt s.heap p.1 p.2 C od := by
  obtain ⟨hget, _⟩ := I.pin p (List.mem_append_left _ hp)
  obtain ⟨⟨h1, h2⟩, vs, hv⟩ := hz
  have nc : PySem.W.notCls p.2 = true := by unfold PySem.W.notCls; rw [hv] <;> rfl
  cases d with
  | none => exact ⟨none, hget, h1, nc, by rw [h2]; trivial⟩
  | some dd =>
    have hx : ObjOk X.prog X.w H s.heap dd (.xd fs) := I.hok dd _ hd
    obtain ⟨mA, hns, hr⟩ := hx
    obtain ⟨od, ho, hl⟩ := lookIn_ns hns
    exact ⟨some od, hget, h1, nc, by rw [h2]; exact ho⟩
/-- isinstance(e, c), e a pinned exception -/
def rIsP (K : PySem.W.Frag) (a : Addr) (cls : Value) (d : Option Addr) : List V → Hp → VK → Prop := fun xs H Q => ∃ (C : Addr) (c : V) (cv : Value) (b : Bool) (fs : List (Str × V)), cls = .ref C ∧ ExcC K C ∧ xs = [.ref a, c] ∧ (∀ u, RelV c u → u = cv) ∧ PySem.W.kitOne K (.ref C) cv = some b ∧ DOk d fs H ∧ Q (.bl b) H
theorem call_isP {cls : Value} (hp : p ∈ X.pn) (hz : ExcIs cls d p) : CallR X (.builtin "isinstance") (rIsP X.K p.1 cls d) := by
  intro pins s σ H xs us Q I r h
  obtain ⟨C, c, cv, b, fs, ec0, T, rfl, hcv, e, hd, q⟩ := h
  subst ec0
  obtain ⟨u1, u2, rfl, r1, r2⟩ := vals2 r
  cases r1
  have ec := hcv _ r2
  subst ec
  obtain ⟨od, J⟩ := inst_of I hp hz hd
  have hcl : (PySem.W.clsIn X.K C).isSome = true := by
    obtain ⟨cd, hc, _⟩ := PySem.W.any_some T.hd
    rw [hc]
    rfl
  exact PySem.W.kia_one (PySem.W.kitx_exc hcl T.hg T.hk T.hs T.ha T.hn T.ht T.hm) I.kIn J e (fun z => nomatch z) fun tk => ⟨.bl b, H, I.kept (t' := tk) fun _ _ z => z, rfl, q⟩
/-- e.n, e a pinned exception -/
def tPf (K : PySem.W.Frag) (a : Addr) (cls : Value) (d : Option Addr) (n : Str) (te : TE) : TE := fun σ H Q => te σ H fun x H1 => x = .ref a ∧ ∃ (C : Addr), cls = .ref C ∧ XfC K C ∧ PySem.W.findIn K (.ref C) n = some none ∧ ∃ (dd : Addr) (fs : List (Str × V)) (v : V), d = some dd ∧ H1 dd = some (.xd fs) ∧ fs.lookup n = some v ∧ Q v H1
theorem pe_pf {cls : Value} {n : Str} {e : Expr} {te : TE} {pos : Pos} (hp : p ∈ X.pn) (hz : ExcIs cls d p) (he : PE X e te)
    (hb : attributeBase e n X.env (eval e X.env) = eval e X.env := by rfl) : PE X (.Attribute e n pos) (tPf X.K p.1 cls d n te) := by
  constructor
  intro pins s σ H Q I h
  refine attr_of hb (thn (he.run pins s σ H _ I h) fun u s1 hh => ?_)
  obtain ⟨x, H1, I1, rx, ex, C, ec0, T, hno, dd, fs, v, ed, hd, l, q⟩ := hh
  subst ex
  subst ec0
  subst ed
  cases rx
  obtain ⟨hget, _⟩ := I1.pin p (List.mem_append_left _ hp)
  obtain ⟨⟨h1, h2⟩, vs, hv⟩ := hz
  have hx : ObjOk X.prog X.w H1 s1.heap dd (.xd fs) := I1.hok dd _ hd
  obtain ⟨mA, hns, hr⟩ := hx
  obtain ⟨od, ho, hl⟩ := lookIn_ns hns
  have q2 := hr n
  rw [l] at q2
  obtain ⟨u, hu, ru⟩ := RelO.some_of q2
  have J : PySem.W.InstAt s1.heap p.1 p.2 C (some od) := ⟨hget, h1, by unfold PySem.W.notCls; rw [hv] <;> rfl, by rw [h2]; exact ho⟩
  exact HandSPX.exc_get I1.kIn J T.ga T.gg T.exC (PySem.W.findObj_own T.hdC hno rfl (by rw [hl, hu])) (handed_of ru) ⟨v, H1, I1.tok _, ru, q⟩
end
/-! ### a def that is called within an except suite; p: the exception that is pinned there -/
structure FnP (P : Program) (w : World) (K : PySem.W.Frag) (mg : Str → Option Value) (base : Heap) (k : Nat) (f : Addr) (fd : FuncData) (ps : List Str) (sp : Addr × Obj → Sp) : Prop where
  len : ∀ p vs H Q E, sp p vs H Q E → vs.length = ps.length
  run : ∀ (A : Around) (outer : List Env) (s : Shared) (H : Hp) (us : List Value) (vs : List V) (Q : VK) (p : Addr × Obj), RoomH k A → PinOk outer H s p → Env0 P w K mg base A outer s H → BindsTo s fd ⟨us, []⟩ (ps.zip us) → Vals vs us → sp p vs H Q E0 →
    codeAny (model P w) A (.call (.ref f) ⟨us, []⟩) (CR CX0 outer P w H s Q E0) s
theorem fnP_of {P : Program} {w : World} {K : PySem.W.Frag} {mg : Str → Option Value} {base : Heap} {k : Nat} {f : Addr} {fd : FuncData} {x qual : Str} {st : Stmt} {N ps : List Str} {sp : Addr × Obj → Sp}
    (F : Fun K x qual st f fd) (S : FnScope N ps (defScope st)) (len : ∀ p vs H Q E, sp p vs H Q E → vs.length = ps.length)
    (hbody : ∀ (cdv : Value) (A : Around) (outer : List Env) (s : Shared) (H : Hp) (vs : List V) (Q : VK) (p : Addr × Obj), RoomH k (A.deeper (envOfC qual (defScope st) s.heap.objs.size f cdv)) → sp p vs H Q E0 →
      ∃ t, PSs (cxH CX0 P w K mg base N qual (defScope st) f cdv A outer s H E0 p).nox (defBody st) t ∧ t { nx := fun _ H' => Q .non H', rt := Q } (L2.start N vs) H) :
    FnP P w K mg base (k + 1) f fd ps sp := by
  obtain ⟨oc, od, kV, doc, pm, an, cdv, ct, osl, rfl, lk, hcd⟩ := F.ex
  constructor
  · exact len
  intro A outer s H us vs Q p hr hpin e0 hb r hsp
  have keep : ∀ b o, base.get? b = some o → s.heap.get? b = some o := fun b o e => (e0.bs b o e).1
  have KX : K.In s.heap := e0.mod.kin.keeps keep
  refine codeAny_call_function hr.depth (KX _ _ lk) rfl S.co S.gen rfl (PySem.W.codeRec_of KX hcd) (hb _ _ _ _ ?_)
  refine wpAny_newFunctionEnv_cells S.kind (fun y hy => ?_) fun env he s1 ic => ?_
  · rcases S.par y.1 (List.of_mem_zip hy).1 with q | q
    · exact Or.inl q
    · exact Or.inr ⟨q, PySem.W.cellsFrom_some _ _ _ (.inl q)⟩
  subst he
  have lim : s1.heap.NoLimit := (e0.mod.nolimit.keeps keep).keeps ic.toInCall.keep
  refine ⟨lim, codeAny_func ?_⟩
  obtain ⟨t, ht, hq⟩ := hbody cdv A outer s H vs Q p (hr.deeper _) hsp
  have I := inv_startH (CX := CX0) (P := P) (w := w) (K := K) (mg := mg) (base := base) (f := f) (cd := cdv) (E := E0) S hpin e0 (len _ _ _ _ _ hsp) r ic
  refine wpAny_mono (ht.nox.run [] s1 (L2.start N vs) H _ I hq) (fun fl s' hs => ?_) (fun _ _ hs => hs)
  cases fl with
  | ret u =>
    obtain ⟨v, σ', H', J, rv, q⟩ := hs
    exact ⟨v, H', J.os, J.bare, J.base, J.hok, rv, q⟩
  | next =>
    obtain ⟨σ', H', J, q⟩ := hs
    exact ⟨V.non, H', J.os, J.bare, J.base, J.hok, rfl, q⟩
  | brk => exact (hs.choose_spec.choose_spec.2 : False).elim
  | cont => exact (hs.choose_spec.choose_spec.2 : False).elim
structure CalP (P : Program) (w : World) (K : PySem.W.Frag) (mg : Str → Option Value) (base : Heap) (k : Nat) (x : Str) (sp : Addr × Obj → Sp) : Prop where
  ex : ∃ (f : Addr) (fd : FuncData) (ps : List Str), FnP P w K mg base k f fd ps sp ∧ mg x = some (.ref f) ∧ PySem.W.keepIn K (.ref f) = true ∧ Binds K fd ps []
def tCallP (sp : Sp) (t : TA) : TE := fun σ H Q => t σ H fun vs H1 => sp vs H1 Q E0
theorem pe_cp {X : Cx} {k j : Nat} {x : Str} {sp : Addr × Obj → Sp} {p : Addr × Obj} {q pos : Pos} {e : Expr} {es : List Expr} {t : TA} (c : CalP X.prog X.w X.K X.mg X.base k x sp) (hr : RoomH j X.A) (hk : k ≤ j) (hp : p ∈ X.pn) (hg : Gl X x) (ha : PA X (e :: es) t)
    (hdb : (x == ("__debug__" : Str)) = false := by decide) (he : starEach (e :: es) X.env = (false, eval e X.env) :: starEach es X.env := by rfl) (hpl : (backTo pos (starEach es X.env)).any (·.1) = false := by rfl) :
    PE X (.Call (.Name x q) (e :: es) [] pos) (tCallP (sp p) t) := by
  obtain ⟨f, fd, ps, F, hm, kp, hb⟩ := c.ex
  constructor
  intro pins s σ H Q I h
  refine wpAny_Call_Name_kw (ld_glob I hg hm ?_ hdb)
  refine PySem.W.callWith_K (h₀ := X.base) I.ok.mod.kin kp (thn (ha.run pos pins s σ H _ I h) fun us s1 hh => ?_) he hpl
  obtain ⟨vs, H1, I1, r, q1⟩ := hh
  refine ⟨I1.kIn, ?_⟩
  have hl : us.length = ps.length := by rw [← r.length]; exact F.len _ _ _ _ _ q1
  have b := hb s1 us I1.kIn (by rw [List.append_nil]; exact hl)
  rw [List.append_nil] at b
  obtain ⟨P1, P2, P3, P4, P5⟩ := I1.pin p (List.mem_append_left _ hp)
  have pin : PinOk X.stack H1 s1 p := ⟨P1, P2, fun hm => (List.mem_cons.mp (I1.stkSub p.1 hm)).elim P3 P4, P5⟩
  show wpAny _ _ (call (.ref f) us) _ _ _
  refine wpAny_call (codeAny_mono (F.run X.A X.stack s1 H1 us vs Q p (hr.mono hk) pin I1.env0 b r q1) fun r s' hq => ?_)
  cases r with
  | error e => exact False.elim hq
  | ok fl =>
    cases fl with
    | ret u => exact I1.after hq
    | next => exact False.elim hq
    | brk => exact False.elim hq
    | cont => exact False.elim hq
theorem x_mk0 {C : Addr} {σ : L2.St} {H : Hp} {Q : XK} (h : Q (.ref C) none H) : tMk0 C σ H Q := h
theorem x_mk1 {C : Addr} {f : Str} {ta : TA} {σ : L2.St} {H : Hp} {Q : XK} (h : ta σ H fun vs H1 => ∃ v, vs = [v] ∧ ∀ d, H1 d = none → Q (.ref C) (some d) (upd H1 d (.xd [(f, v)]))) : tMk1 C f ta σ H Q := h
theorem x_mk2 {C : Addr} {f g : Str} {ta : TA} {σ : L2.St} {H : Hp} {Q : XK} (h : ta σ H fun vs H1 => ∃ v z, vs = [v, z] ∧ ∀ d, H1 d = none → Q (.ref C) (some d) (upd H1 d (.xd [(g, z), (f, v)]))) : tMk2 C f g ta σ H Q := h
theorem x_callP {sp : Sp} {tr : TA} {σ : L2.St} {H : Hp} {Q : VK} (h : tr σ H fun vs H1 => sp vs H1 Q E0) : tCallP sp tr σ H Q := h
end MPX
end
section
namespace MP
open PySem L2
/-! ### steps of a reading, at its head -/
section
variable {K : PySem.W.Frag} {σ : L2.St} {H : Hp} {D : Ends} {Q : VK} {te ta tb tc : TE} {tt uu : TT} {t u : TS} {g : TG} {r : R2} {i : Nat} {v : V}
theorem x_seq (h : t { D with nx := u D } σ H) : tSeq t u D σ H := h
theorem x_next (h : D.nx σ H) : tNext D σ H := h
theorem x_brk (h : D.bk σ H) : tBreak D σ H := h
theorem x_cont (h : D.ct σ H) : tCont D σ H := h
theorem x_drop (h : te σ H fun _ H1 => D.nx σ H1) : tDrop te D σ H := h
theorem x_ret (h : te σ H D.rt) : tRet te D σ H := h
theorem x_retN (h : D.rt .non H) : tRetN D σ H := h
theorem x_ifs (h : tt σ H fun b H1 => if b = true then t D σ H1 else u D σ H1) : tIfS tt t u D σ H := h
theorem x_asg (h : te σ H fun x H1 => g x σ H1 D.nx) : tAsg te g D σ H := h
theorem x_name {R : L2.St → Hp → Prop} (h : R (σ.set i (some v)) H) : gName i v σ H R := h
theorem x_var (e : σ[i]? = some (some v)) (h : Q v H) : tVar i σ H Q := ⟨v, e, h⟩
theorem x_c (h : Q v H) : tC v σ H Q := h
theorem x_op (h : ta σ H fun x H1 => tb σ H1 fun y H2 => r x y H2 Q) : tOp r ta tb σ H Q := h
theorem x_un {r : V → Hp → VK → Prop} (h : ta σ H fun x H1 => r x H1 Q) : tUn r ta σ H Q := h
theorem x_test {R : Bool → Hp → Prop} (h : te σ H fun x H' => ∃ k, x = .bl k ∧ R k H') : tTest te σ H R := h
theorem x_tB {R : Bool → Hp → Prop} (h : te σ H fun x H' => ∃ k, x = .bl k ∧ R k H') : tB te σ H R := h
theorem x_and {R : Bool → Hp → Prop} (h : tt σ H fun c H1 => if c = true then uu σ H1 R else R false H1) : tAnd tt uu σ H R := h
theorem x_or {R : Bool → Hp → Prop} (h : tt σ H fun c H1 => if c = true then R true H1 else uu σ H1 R) : tOr tt uu σ H R := h
theorem x_not {R : Bool → Hp → Prop} (h : tt σ H fun c H1 => R (!c) H1) : tNot tt σ H R := h
theorem x_andV (h : ta σ H fun x H1 => ∃ c, x = .bl c ∧ if c = true then tb σ H1 Q else Q (.bl false) H1) : tAndV ta tb σ H Q := h
theorem x_orV (h : ta σ H fun x H1 => ∃ c, x = .bl c ∧ if c = true then Q (.bl true) H1 else tb σ H1 Q) : tOrV ta tb σ H Q := h
theorem x_notV (h : ta σ H fun x H1 => ∃ c, x = .bl c ∧ Q (.bl (!c)) H1) : tNotV ta σ H Q := h
theorem x_if (h : tt σ H fun c H1 => if c = true then ta σ H1 Q else tb σ H1 Q) : tIf tt ta tb σ H Q := h
theorem x_nil {R : List V → Hp → Prop} (h : R [] H) : tNil σ H R := h
theorem x_cons {tr : TA} {R : List V → Hp → Prop} (h : ta σ H fun x H1 => tr σ H1 fun xs H2 => R (x :: xs) H2) : tCons ta tr σ H R := h
theorem x_tup {tr : TA} (h : tr σ H fun xs H1 => xs.length ≤ sizeLine ∧ ∀ p, H1 p = none → Q (.ref p) (upd H1 p (.tup xs))) : tTup tr σ H Q := h
theorem x_lst {tr : TA} (h : tr σ H fun xs H1 => xs.length ≤ sizeLine ∧ ∀ p, H1 p = none → Q (.ref p) (upd H1 p (.lst xs))) : tLst tr σ H Q := h
theorem x_cb {r : List V → Hp → VK → Prop} {tr : TA} (h : tr σ H fun vs H1 => r vs H1 Q) : tCB r tr σ H Q := h
theorem x_call {sp : Sp} {dvs : List V} {E : XK} {tr : TA} (h : tr σ H fun vs H1 => sp (vs ++ dvs) H1 Q E) : tCall sp dvs E tr σ H Q := h
theorem x_m0 {r : V → List V → Hp → VK → Prop} (h : ta σ H fun x H1 => (∃ a, x = .str a) ∧ r x [] H1 Q) : tM0 r ta σ H Q := h
theorem x_m1 {r : V → List V → Hp → VK → Prop} (h : ta σ H fun x H1 => (∃ a, x = .str a) ∧ tb σ H1 fun y H2 => r x [y] H2 Q) : tM1 r ta tb σ H Q := h
theorem x_bm0 {T : String} {r : V → List V → Hp → VK → Prop} (h : ta σ H fun x H1 => tyV K T x H1 ∧ r x [] H1 Q) : tBM0 K T r ta σ H Q := h
theorem x_bm {T : String} {tr : TA} {r : V → List V → Hp → VK → Prop} (h : ta σ H fun x H1 => tyV K T x H1 ∧ tr σ H1 fun xs H2 => r x xs H2 Q) : tBM K T r ta tr σ H Q := h
theorem x_par {j : Nat} {tr : TA} (h : tr σ H fun vs H1 => ∃ v w, vs = [v, w] ∧ D.nx ((σ.set i (some v)).set j (some w)) H1) : tPar i j tr D σ H := h
theorem x_eq {x y : V} (hs : scal x y = true) (h : Q (.bl (decide (x = y))) H) : rEq x y H Q := ⟨hs, h⟩
theorem x_ne {x y : V} (hs : scal x y = true) (h : Q (.bl (!decide (x = y))) H) : rNe x y H Q := ⟨hs, h⟩
theorem x_rI0 {f : Int → Int → V} {a b : Int} (h : Q (f a b) H) : rI0 f (.int a) (.int b) H Q := ⟨a, b, rfl, rfl, h⟩
theorem x_rI {C : Int → Int → Prop} {f : Int → Int → V} {a b : Int} (hc : C a b) (h : Q (f a b) H) : rI C f (.int a) (.int b) H Q := ⟨a, b, rfl, rfl, hc, h⟩
theorem x_ilist {R : It → Hp → Prop} (h : ta σ H fun x H1 => ∃ a, x = V.ref a ∧ (∃ xs, SqL K H1 a xs) ∧ R (Itl K a) H1) : iList K ta σ H R := h
theorem x_itup {R : It → Hp → Prop} (h : ta σ H fun x H1 => ∃ a, x = V.ref a ∧ (∃ xs, SqT K H1 a xs) ∧ R (Itt K a) H1) : iTup K ta σ H R := h
theorem x_istr {R : It → Hp → Prop} (h : ta σ H fun v H1 => ∃ x, v = V.str x ∧ R (Its x) H1) : iStr ta σ H R := h
theorem x_T {A B : Prop} (h : A) : if true = true then A else B := by rw [if_pos rfl]; exact h
theorem x_F {A B : Prop} (h : B) : if false = true then A else B := by rw [if_neg Bool.false_ne_true]; exact h
theorem x_D {p A B : Prop} [Decidable p] (h1 : p → A) (h2 : ¬ p → B) : if decide p = true then A else B := by
  by_cases h : p
  · rw [decide_eq_true h, if_pos rfl]; exact h1 h
  · rw [decide_eq_false h, if_neg Bool.false_ne_true]; exact h2 h
theorem x_ND {p A B : Prop} [Decidable p] (h1 : ¬ p → A) (h2 : p → B) : if (!decide p) = true then A else B := by
  by_cases h : p
  · rw [decide_eq_true h]; exact x_F (h2 h)
  · rw [decide_eq_false h]; exact x_T (h1 h)
theorem x_B {b : Bool} {A B : Prop} (h1 : b = true → A) (h2 : b = false → B) : if b = true then A else B := by
  cases b with
  | true => rw [if_pos rfl]; exact h1 rfl
  | false => rw [if_neg Bool.false_ne_true]; exact h2 rfl
theorem x_NB {b : Bool} {A B : Prop} (h1 : b = false → A) (h2 : b = true → B) : if (!b) = true then A else B := by
  cases b with
  | true => exact x_F (h2 rfl)
  | false => exact x_T (h1 rfl)
end
/-- a comprehension over a list whose test and element touch nothing that lasts -/
theorem lc_pure {K : PySem.W.Frag} {a : Addr} {xs : List V} {g : TG} {tt : TT} {te : TE} {vs : List Nat} {σ : L2.St} {H1 : Hp} {D : Addr} {Qd : Hp → Prop} (f : V → Bool) (v : V → V)
    (hx : SqL K H1 a xs) (hn : H1 D = none) (hz : xs.length < 100000)
    (hs : ∀ x H (acc : List V) (R : Hp → Prop), x ∈ xs → Same H1 H → H D = some (.lst acc) → acc.length < sizeLine → (f x = true → R (upd H D (.lst (acc ++ [v x])))) → (f x = false → R H) → g x (wipe σ vs) H fun σ2 H2 => wipe σ2 vs = wipe σ vs ∧ tt σ2 H2 fun b H3 =>
      if b = true then te σ2 H3 fun y H4 => ∃ acc, H4 D = some (.lst acc) ∧ acc.length < sizeLine ∧ R (upd H4 D (.lst (acc ++ [y]))) else R H3)
    (hd : Qd (upd H1 D (.lst ((xs.filter f).map v)))) :
    ∃ W : Nat → Nat → Hp → Prop, (∃ m, W 0 m (upd H1 D (.lst []))) ∧ ∀ i m H, W i m H →
      ((Itl K a).stop i H ∧ Qd H) ∨ ((Itl K a).go i H ∧ ∃ Nx : Hp → Prop, (∀ H', Nx H' → ∃ m', m' < m ∧ W (i + 1) m' H') ∧ ∀ x H', (Itl K a).yld i H x H' → g x (wipe σ vs) H' fun σ2 H2 => wipe σ2 vs = wipe σ vs ∧ tt σ2 H2 fun b H3 =>
        if b = true then te σ2 H3 fun y H4 => ∃ acc, H4 D = some (.lst acc) ∧ acc.length < sizeLine ∧ Nx (upd H4 D (.lst (acc ++ [y]))) else Nx H3) := by
  have same : ∀ o, Same H1 (upd H1 D o) := fun o b u e => by rw [upd_ne (ne_of_none e hn)]; exact e
  refine lc_list (xs := xs) (fun i H => H = upd H1 D (.lst (((xs.take i).filter f).map v))) rfl (fun i H _ e => ?_) (fun i x H hi e => ?_) (fun H e => ?_)
  · rw [e]
    exact (same _).seq hx
  · subst e
    have hil := (List.getElem?_eq_some_iff.mp hi).1
    have htake : xs.take (i + 1) = xs.take i ++ [x] := by rw [List.take_add_one, hi]; rfl
    have hlen : (((xs.take i).filter f).map v).length < sizeLine := by
      rw [List.length_map]
      have h1 := List.length_filter_le f (xs.take i)
      rw [List.length_take] at h1
      have : (100000 : Nat) ≤ sizeLine := by decide
      omega
    refine hs x _ (((xs.take i).filter f).map v) _ (List.mem_of_getElem? hi) (same _) upd_same hlen (fun hf => ?_) (fun hf => ?_)
    · rw [htake, List.filter_append, List.map_append, upd_upd, List.filter_cons_of_pos hf]
      rfl
    · rw [htake, List.filter_append, List.map_append, List.filter_cons_of_neg (by rw [hf]; decide)]
      simp
  · subst e
    rw [List.take_length]
    exact hd
theorem len_ok {xs : List V} (h : Nat.ble xs.length 1000 = true) : xs.length ≤ sizeLine := Nat.le_trans (Nat.le_of_ble_eq_true h) (by decide)
theorem big5 : (100000 : Nat) ≤ sizeLine := by decide
theorem upd_new {H : Hp} {p q : Addr} {o u : HO} (h : H q = some u) (n : H p = none) : upd H p o q = some u := by rw [upd_ne (ne_of_none h n)]; exact h
theorem same_upd {H : Hp} {p : Addr} {o : HO} (n : H p = none) : Same H (upd H p o) := fun b u e => upd_new e n
section
variable {K : PySem.W.Frag} {σ : L2.St} {H : Hp} {Q : VK} {te : TE} {to tl th : TO}
theorem x_sl {r : V → Option Int → Option Int → Hp → VK → Prop} (h : te σ H fun x H1 => tl σ H1 fun l H2 => th σ H2 fun u H3 => r x l u H3 Q) : tSl r te tl th σ H Q := h
theorem x_nopart {R : Option Int → Hp → Prop} (h : R none H) : tNoPart σ H R := h
theorem x_part {R : Option Int → Hp → Prop} (h : te σ H fun x H1 => ∃ i, x = V.int i ∧ R (some i) H1) : tPart te σ H R := h
theorem x_slL {a : Addr} {xs : List V} {lo hi : Option Int} (hs : SqL K H a xs) (h : ∀ p, H p = none → Q (.ref p) (upd H p (.lst (cutV xs lo hi)))) : rSlL K (.ref a) lo hi H Q := ⟨a, xs, rfl, hs, h⟩
theorem x_ixL {a : Addr} {xs : List V} {i : Int} {v : V} (hs : SqL K H a xs) (ha : atI xs i = some v) (h : Q v H) : rIxL K (.ref a) (.int i) H Q := ⟨a, xs, i, v, rfl, rfl, hs, ha, h⟩
theorem x_ixT {a : Addr} {xs : List V} {i : Int} {v : V} (hs : SqT K H a xs) (ha : atI xs i = some v) (h : Q v H) : rIxT K (.ref a) (.int i) H Q := ⟨a, xs, i, v, rfl, rfl, hs, ha, h⟩
theorem x_mod {i j : Int} (hj : 0 < j) (h : ∀ r, r = i % j → 0 ≤ r → r < j → Q (.int r) H) : rI (fun _ j => j ≠ 0) (fun i j => .int (i.fmod j)) (.int i) (.int j) H Q :=
  ⟨i, j, rfl, rfl, by show j ≠ 0; omega, by
    show Q (.int (i.fmod j)) H
    rw [Int.fmod_eq_emod_of_nonneg i (by omega)]
    exact h _ rfl (Int.emod_nonneg _ (by omega)) (Int.emod_lt_of_pos _ hj)⟩
theorem divW {i j : Int} (h : 0 < j) (h2 : j < 18446744073709551616) : CDivW i j := wide_div h (b := 64) (by omega) (by decide) (by decide)
theorem mulW {i j : Int} (h : i.natAbs < 18446744073709551616) (h2 : j.natAbs < 18446744073709551616) : CMulW i j := wide_mul (a := 64) (b := 64) h h2 (by decide) (by decide) (by decide)
theorem x_disp {trs : List (TE × TE)} (h : ∀ p, H p = none → tPairs trs σ (upd H p (.dK [])) fun ps H2 => H2 p = some (.dK []) ∧ ∃ kvs : List (Key × V), ps = kvs.map (fun kv => (kV kv.1, kv.2)) ∧ kvs.length ≤ 15 ∧ Q (.ref p) (upd H2 p (.dK (mergeK [] kvs)))) : tDisp trs σ H Q := h
theorem x_pcons {tk tv : TE} {r : List (TE × TE)} {R : List (V × V) → Hp → Prop} (h : tk σ H fun x H1 => tv σ H1 fun y H2 => tPairs r σ H2 fun ps H3 => R ((x, y) :: ps) H3) : tPairs ((tk, tv) :: r) σ H R := h
theorem x_pnil {R : List (V × V) → Hp → Prop} (h : R [] H) : tPairs [] σ H R := h
end
/-! ### a def of the module that can be called; a statement with a word behind it -/
structure Cal (P : Program) (w : World) (K : PySem.W.Frag) (mg : Str → Option Value) (base : Heap) (k : Nat) (x : Str) (sp : Sp) : Prop where
  ex : ∃ (f : Addr) (fd : FuncData) (ps : List Str), FnOk P w K mg base (L2.CX P w) k f fd ps sp ∧ mg x = some (.ref f) ∧ PySem.W.keepIn K (.ref f) = true ∧ Binds K fd ps []
theorem fn_cx {P : Program} {w : World} {K : PySem.W.Frag} {mg : Str → Option Value} {base : Heap} {k : Nat} {f : Addr} {fd : FuncData} {ps : List Str} {sp : Sp} (F : FnOk P w K mg base CX0 k f fd ps sp) : FnOk P w K mg base (L2.CX P w) k f fd ps sp := by
  refine ⟨F.len, fun A outer s H args us vs Q E hr e0 hb hv hs => codeAny_mono (F.run A outer s H args us vs Q E hr e0 hb hv hs) fun r s' h => ?_⟩
  cases r with
  | error e => exact False.elim h
  | ok fl =>
    cases fl with
    | ret u => exact h
    | next => exact False.elim h
    | brk => exact False.elim h
    | cont => exact False.elim h
section
variable {X : Cx} {k j : Nat} {x : Str} {sp : Sp} {p pos : Pos} {e : Expr} {es : List Expr} {t : TA} {E : St → XK}
/-- a call that lets no error out -/
theorem pe_cc (c : Cal X.prog X.w X.K X.mg X.base k x sp) (hr : Room j X.A) (hk : k ≤ j) (hg : Gl X x) (ha : PA X (e :: es) t)
    (hdb : (x == ("__debug__" : Str)) = false := by decide) (he : starEach (e :: es) X.env = (false, eval e X.env) :: starEach es X.env := by rfl) (hpl : (backTo pos (starEach es X.env)).any (·.1) = false := by rfl) :
    PE X (.Call (.Name x p) (e :: es) [] pos) (tCall sp [] E0 t) := by
  obtain ⟨f, fd, ps, F, hm, kp, b⟩ := c.ex
  exact pe_call F (hr.mono hk) hg hm kp b .nil passL ha hdb he hpl
/-- a call whose error is wished for -/
theorem pe_cs (c : Cal X.prog X.w X.K X.mg X.base k x sp) (hr : Room j X.A) (hk : k ≤ j) (hg : Gl X x) (hx : ∀ σ, PassesAt (L2.CX X.prog X.w) X σ (E σ)) (ha : PA X (e :: es) t)
    (hdb : (x == ("__debug__" : Str)) = false := by decide) (he : starEach (e :: es) X.env = (false, eval e X.env) :: starEach es X.env := by rfl) (hpl : (backTo pos (starEach es X.env)).any (·.1) = false := by rfl) :
    PE X (.Call (.Name x p) (e :: es) [] pos) (tCallS sp E t) := by
  obtain ⟨f, fd, ps, F, hm, kp, b⟩ := c.ex
  exact pe_callS F (hr.mono hk) hg hm kp b hx ha hdb he hpl
theorem pe_cc0 (c : Cal X.prog X.w X.K X.mg X.base k x sp) (hr : Room j X.A) (hk : k ≤ j) (hg : Gl X x) (hdb : (x == ("__debug__" : Str)) = false := by decide) : PE X (.Call (.Name x p) [] [] pos) (tCall sp [] E0 tNil) := by
  obtain ⟨f, fd, ps, F, hm, kp, b⟩ := c.ex
  exact pe_call0 F (hr.mono hk) hg hm kp b .nil passL hdb
end
def tWord (t u : TS) : TS := fun D σ H => ∃ M : L2.St → Hp → Prop, t { D with nx := M } σ H ∧ ∀ σ' H', M σ' H' → u D σ' H'
theorem pss_word {X : Cx} {st : Stmt} {more : List Stmt} {t u : TS} (h1 : PS X st t) (h2 : PSs X more u) : PSs X (st :: more) (tWord t u) := by
  constructor
  intro pins s σ H D I h
  obtain ⟨M, hm, hu⟩ := h
  refine wpAny_execs_cons (thn (h1.run pins s σ H { D with nx := M } I hm) fun f s1 q => ?_)
  cases f with
  | next =>
    obtain ⟨σ', H', I', q'⟩ := q
    exact h2.run pins s1 σ' H' D I' (hu σ' H' q')
  | ret v => exact q
  | brk => exact q
  | cont => exact q
theorem x_callS {sp : Sp} {E : L2.St → XK} {tr : TA} {σ : L2.St} {H : Hp} {Q : VK} (h : tr σ H fun vs H1 => sp vs H1 Q (E σ)) : tCallS sp E tr σ H Q := h
/-! ### dicts -/
section
variable {σ : L2.St} {H : Hp} {D : Ends} {Q : VK} {td ty tv tx : TE}
theorem x_dget (h : td σ H fun x H1 => ty σ H1 fun y H2 => ∃ a v, x = V.ref a ∧ DGet H2 a y (some v) ∧ Q v H2) : tDGet td ty σ H Q := h
theorem x_dput (h : tv σ H fun v H1 => td σ H1 fun x H2 => ty σ H2 fun y H3 => ∃ a H4, x = V.ref a ∧ DPut H3 a y v H4 ∧ D.nx σ H4) : sDPut td ty tv D σ H := h
theorem x_dnew (h : ∀ p, H p = none → Q (.ref p) (upd H p (.dK []))) : tDNewK σ H Q := h
theorem x_dget1 (h : td σ H fun x H1 => ∃ a, x = V.ref a ∧ IsD H1 a ∧ ty σ H1 fun y H2 => ∃ o, DGet H2 a y o ∧ Q (o.getD .non) H2) : tDGet1 td ty σ H Q := h
theorem x_dget2 (h : td σ H fun x H1 => ∃ a, x = V.ref a ∧ IsD H1 a ∧ ty σ H1 fun y H2 => tx σ H2 fun z H3 => ∃ o, DGet H3 a y o ∧ Q (o.getD z) H3) : tDGet2 td ty tx σ H Q := h
end
theorem dget_s {H : Hp} {a : Addr} {kvs : List (Key × V)} {x : Str} {r : Option V} (e : H a = some (.dK kvs)) (h : valV kvs (Sum.inr x : Key) = r) : DGet H a (.str x) r := h ▸ DGet.k (k := Sum.inr x) e
theorem dget_i {H : Hp} {a : Addr} {kvs : List (Key × V)} {i : Int} {r : Option V} (e : H a = some (.dK kvs)) (h : valV kvs (Sum.inl i : Key) = r) : DGet H a (.int i) r := h ▸ DGet.k (k := Sum.inl i) e
theorem dput_s {H : Hp} {a : Addr} {kvs kvs' : List (Key × V)} {x : Str} {v : V} (e : H a = some (.dK kvs)) (hl : kvs.length < 100000) (h : putK kvs (Sum.inr x : Key) v = kvs') : DPut H a (.str x) v (upd H a (.dK kvs')) := h ▸ DPut.k (k := Sum.inr x) e (Nat.lt_of_lt_of_le hl big5)
theorem dput_i {H : Hp} {a : Addr} {kvs kvs' : List (Key × V)} {i : Int} {v : V} (e : H a = some (.dK kvs)) (hl : kvs.length < 100000) (h : putK kvs (Sum.inl i : Key) v = kvs') : DPut H a (.int i) v (upd H a (.dK kvs')) := h ▸ DPut.k (k := Sum.inl i) e (Nat.lt_of_lt_of_le hl big5)
theorem valV_sc {κ : Type} [DecidableEq κ] {k j : κ} {v : V} {r : List (κ × V)} : valV ((k, v) :: r) j = if k = j then some v else valV r j := by
  by_cases e : k = j
  · rw [if_pos e]; exact valV_pos e
  · rw [if_neg e]; exact valV_neg e
/-! ### the law's pen: a dict of the cells, the index of the next one, what is left -/
def penK (l : Addr) (a b : Int) : List (Key × V) := [(Sum.inr "cells", .ref l), (Sum.inr "at", .int a), (Sum.inr "left", .int b)]
theorem key_ne {x y : Str} (h : ¬ x = y) : ¬ ((Sum.inr x : Key) = Sum.inr y) := fun z => h (Sum.inr.inj z)
theorem k_ca : ¬ ((Sum.inr ("cells" : Str) : Key) = Sum.inr ("at" : Str)) := key_ne (by decide +kernel)
theorem k_cl : ¬ ((Sum.inr ("cells" : Str) : Key) = Sum.inr ("left" : Str)) := key_ne (by decide +kernel)
theorem k_al : ¬ ((Sum.inr ("at" : Str) : Key) = Sum.inr ("left" : Str)) := key_ne (by decide +kernel)
theorem pen_cells (l : Addr) (a b : Int) : valV (penK l a b) (Sum.inr "cells" : Key) = some (.ref l) := valV_pos rfl
theorem pen_at (l : Addr) (a b : Int) : valV (penK l a b) (Sum.inr "at" : Key) = some (.int a) := by
  unfold penK
  rw [valV_neg k_ca]
  exact valV_pos rfl
theorem pen_left (l : Addr) (a b : Int) : valV (penK l a b) (Sum.inr "left" : Key) = some (.int b) := by
  unfold penK
  rw [valV_neg k_cl, valV_neg k_al]
  exact valV_pos rfl
theorem pen_put_at (l : Addr) (a b z : Int) : putK (penK l a b) (Sum.inr "at" : Key) (.int z) = penK l z b := by
  have h : ((penK l a b).any fun kv => decide (kv.1 = (Sum.inr "at" : Key))) = true := by rw [valV_any, pen_at]; rfl
  unfold putK
  rw [if_pos h]
  unfold penK
  rw [List.map_cons, List.map_cons, List.map_cons, List.map_nil, if_neg k_ca, if_pos rfl, if_neg (Ne.symm k_al)]
theorem pen_put_left (l : Addr) (a b z : Int) : putK (penK l a b) (Sum.inr "left" : Key) (.int z) = penK l a z := by
  have h : ((penK l a b).any fun kv => decide (kv.1 = (Sum.inr "left" : Key))) = true := by rw [valV_any, pen_left]; rfl
  unfold putK
  rw [if_pos h]
  unfold penK
  rw [List.map_cons, List.map_cons, List.map_cons, List.map_nil, if_neg k_cl, if_neg k_al, if_pos rfl]
/-- a pen at d, its cells ns at l -/
structure PenAt (H : Hp) (d l : Addr) (ns : List Int) (a b : Int) : Prop where
  dc : H d = some (.dK (penK l a b))
  cl : H l = some (.lst (ns.map V.int))
  na : 0 ≤ a
  nb : 0 ≤ b
  len : ns.length ≤ 63
theorem PenAt.ne {H : Hp} {d l : Addr} {ns : List Int} {a b : Int} (p : PenAt H d l ns a b) : l ≠ d := ne_of p.cl p.dc (fun z => by cases z)
theorem PenAt.mono {H H' : Hp} {d l : Addr} {ns : List Int} {a b : Int} (p : PenAt H d l ns a b) (s : Same H H') : PenAt H' d l ns a b := ⟨s _ _ p.dc, s _ _ p.cl, p.na, p.nb, p.len⟩
theorem pen_small (l : Addr) (a b : Int) : (penK l a b).length < 100000 := by show 3 < 100000; decide
theorem PenAt.toAt {H : Hp} {d l : Addr} {ns : List Int} {a b z : Int} (p : PenAt H d l ns a b) (h : 0 ≤ z) : PenAt (upd H d (.dK (penK l z b))) d l ns z b := ⟨upd_same, by rw [upd_ne p.ne]; exact p.cl, h, p.nb, p.len⟩
theorem PenAt.toLeft {H : Hp} {d l : Addr} {ns : List Int} {a b z : Int} (p : PenAt H d l ns a b) (h : 0 ≤ z) : PenAt (upd H d (.dK (penK l a z))) d l ns a z := ⟨upd_same, by rw [upd_ne p.ne]; exact p.cl, p.na, h, p.len⟩
/-- all but the pen at d is as it was -/
def Kept (d : Addr) (H H' : Hp) : Prop := ∀ b o, H b = some o → b ≠ d → H' b = some o
theorem Kept.refl (d : Addr) (H : Hp) : Kept d H H := fun _ _ h _ => h
theorem Kept.trans {d : Addr} {H H1 H2 : Hp} (x : Kept d H H1) (y : Kept d H1 H2) : Kept d H H2 := fun b o h n => y b o (x b o h n) n
theorem Kept.of {d : Addr} {H H1 : Hp} (x : Same H H1) : Kept d H H1 := fun b o h _ => x b o h
theorem Kept.put {d : Addr} {H : Hp} {o : HO} : Kept d H (upd H d o) := fun b u h n => by rw [upd_ne n]; exact h
/-- the pen at d, its cells ns, after at most n draws -/
def Pen (H : Hp) (d : Addr) (ns : List Int) (n : Nat) : Prop := ∃ l a b, PenAt H d l ns a b ∧ a ≤ (n : Int)
theorem Pen.mono {H H' : Hp} {d : Addr} {ns : List Int} {n : Nat} (p : Pen H d ns n) (s : Same H H') : Pen H' d ns n := by
  obtain ⟨l, a, b, p, h⟩ := p
  exact ⟨l, a, b, p.mono s, h⟩
theorem Pen.le {H : Hp} {d : Addr} {ns : List Int} {n m : Nat} (p : Pen H d ns n) (h : n ≤ m) : Pen H d ns m := by
  obtain ⟨l, a, b, p, q⟩ := p
  exact ⟨l, a, b, p, by omega⟩
/-! ### lists and data -/
theorem dp_ints {K : PySem.W.Frag} {H : Hp} {a : Addr} {ns : List Int} (h : SqL K H a (ns.map V.int)) : Dp K H (.ref a) (.list (ns.map PyData.int)) := by
  refine .lst h ?_
  clear h
  induction ns with
  | nil => exact .nil
  | cons n r ih => exact .cons (.int n) ih
theorem eqv_nil (l : List PyData) : PyData.eqv (.list l) (.list []) = l.isEmpty := by
  cases l with
  | nil => rfl
  | cons a r => rfl
theorem lay_ints : ∀ ns : List Int, PyData.canLayAll0 (ns.map PyData.int) = true
  | [] => rfl
  | n :: r => lay_ints r
theorem depth_ints : ∀ ns : List Int, PyData.depthAll (ns.map PyData.int) = 0
  | [] => rfl
  | n :: r => by
    show max 0 (PyData.depthAll (r.map PyData.int)) = 0
    rw [depth_ints r]
    rfl
theorem shaped_ints (ns : List Int) : SeqAt.shaped (.list (ns.map PyData.int)) = true := by
  show (PyData.canLayAll0 (ns.map PyData.int) && decide (PyData.depthAll (ns.map PyData.int) + 1 ≤ 64)) = true
  rw [lay_ints, depth_ints]
  rfl
theorem dp_nil {K : PySem.W.Frag} {H : Hp} {a : Addr} (h : SqL K H a []) : Dp K H (.ref a) (.list []) := .lst h .nil
theorem x_neNil {K : PySem.W.Frag} {H : Hp} {Q : VK} {a b : Addr} {ns : List Int} (h1 : SqL K H a (ns.map V.int)) (h2 : H b = some (.lst [])) (h : Q (.bl (!ns.isEmpty)) H) : rNeD K (.ref a) (.ref b) H Q :=
  ⟨_, _, dp_ints h1, dp_nil (SqL.of h2), shaped_ints ns, by decide +kernel, by rw [eqv_nil, List.isEmpty_map]; exact h⟩
theorem x_eqNil {K : PySem.W.Frag} {H : Hp} {Q : VK} {a b : Addr} {ns : List Int} (h1 : SqL K H a (ns.map V.int)) (h2 : H b = some (.lst [])) (h : Q (.bl ns.isEmpty) H) : rEqD K (.ref a) (.ref b) H Q :=
  ⟨_, _, dp_ints h1, dp_nil (SqL.of h2), shaped_ints ns, by decide +kernel, by rw [eqv_nil, List.isEmpty_map]; exact h⟩
theorem at_mod {α : Type} {xs : List α} {i : Int} (h0 : 0 ≤ i) (h : i < (xs.length : Int)) : ∃ v, atI xs i = some v ∧ v ∈ xs := by
  have hl : i.toNat < xs.length := by omega
  refine ⟨xs[i.toNat], ?_, List.getElem_mem ..⟩
  have e : ((i.toNat : Nat) : Int) = i := by omega
  have q := atI_nat (xs := xs) (j := i.toNat) (v := xs[i.toNat]) (by simp [hl])
  rw [e] at q
  exact q
theorem Kept.seq {K : PySem.W.Frag} {H H' : Hp} {d a : Addr} {xs : List V} {l : Addr} {x y : Int} (k : Kept d H H') (hd : H d = some (.dK (penK l x y))) (h : SqL K H a xs) : SqL K H' a xs := by
  rcases h with (h | ⟨o, h⟩) | h
  · exact .inl (.inl (k _ _ h (ne_of h hd (fun z => by cases z))))
  · exact .inl (.inr ⟨o, k _ _ h (ne_of h hd (fun z => by cases z))⟩)
  · exact .inr h
theorem Pen.seq {K : PySem.W.Frag} {H H' : Hp} {d a : Addr} {xs : List V} {ns : List Int} {n : Nat} (k : Kept d H H') (p : Pen H d ns n) (h : SqL K H a xs) : SqL K H' a xs := by
  obtain ⟨l, x, y, p, _⟩ := p
  exact k.seq p.dc h
theorem x_ixSeqL {K : PySem.W.Frag} {H : Hp} {Q : VK} {a : Addr} {xs : List V} {i : Int} {v : V} (hs : SqL K H a xs) (ha : atI xs i = some v) (h : Q v H) : rIx K (.ref a) (.int i) H Q := .inl (x_ixL hs ha h)
theorem x_ixSeqS {K : PySem.W.Frag} {H : Hp} {Q : VK} {z : Str} {i : Int} {c : Nat} (hz : z.length ≤ sizeLine) (ha : atI z.cps.toList i = some c) (h : Q (.str ⟨#[c]⟩) H) : rIx K (.str z) (.int i) H Q := .inr (.inr ⟨z, i, c, rfl, rfl, hz, ha, h⟩)
section
variable {D : Ends}
theorem x_make {C : Addr} {sp : Sp} {E : XK} {t : TA} {σ : L2.St} {H : Hp} {Q : VK} (h : t σ H fun vs H1 => ∀ x dx, H1 x = none → H1 dx = none → dx ≠ x → sp (.ref x :: (vs ++ [])) (upd (upd H1 dx (.own x)) x (.ins C dx [])) (fun v H2 => v = .non ∧ Q (.ref x) H2) E) : tMake C sp [] E t σ H Q := h
theorem x_sfld {K : PySem.W.Frag} {ta tv : TE} {f : Str} {σ : L2.St} {H : Hp} {D : Ends} (h : tv σ H fun y H1 => ta σ H1 fun x H2 => ∃ a C dx fs, x = .ref a ∧ H2 a = some (.ins C dx fs) ∧ Cls K C ∧ NoAttr K C f ∧ fs.length < 1000 ∧ D.nx σ (upd H2 a (.ins C dx (putF f y fs)))) : sFld K ta tv f D σ H := h
end
theorem x_rngC {z : Int} {σ : L2.St} {H : Hp} {R : It → Hp → Prop} (h1 : -4611686018427387904 ≤ z) (h2 : z < 4611686018427387904) (h : R (Itr 0 z.toNat) H) : iRng1 (tCons (tC (.int z)) tNil) σ H R := ⟨z, rfl, h1, h2, h⟩
theorem x_rngO {te : TE} {σ : L2.St} {H : Hp} {R : It → Hp → Prop} (h : tCons te tNil σ H fun vs H1 => ∃ j : Int, vs = [.int j] ∧ -(2 ^ 62) ≤ j ∧ j < 2 ^ 62 ∧ R (Itr 0 j.toNat) H1) : iRng1 (tCons te tNil) σ H R := h
theorem x_cT {b : Bool} {A B : Prop} (e : b = true) (h : A) : if b = true then A else B := by rw [if_pos e]; exact h
theorem x_cF {b : Bool} {A B : Prop} (e : b = false) (h : B) : if b = true then A else B := by rw [e, if_neg Bool.false_ne_true]; exact h
theorem x_inL {K : PySem.W.Frag} {p : Addr} {xs : List V} {x : V} {H : Hp} {Q : VK} (hs : SqL K H p xs) (fx : flatV x = true) (fs : xs.all flatV = true) (h : Q (.bl (inV x xs)) H) : rIn K false x (.ref p) H Q := ⟨p, xs, rfl, .inl hs, fx, fs, h⟩
theorem x_inT {K : PySem.W.Frag} {p : Addr} {xs : List V} {x : V} {H : Hp} {Q : VK} (hs : SqT K H p xs) (fx : flatV x = true) (fs : xs.all flatV = true) (h : Q (.bl (inV x xs)) H) : rIn K false x (.ref p) H Q := ⟨p, xs, rfl, .inr hs, fx, fs, h⟩
theorem x_notInL {K : PySem.W.Frag} {p : Addr} {xs : List V} {x : V} {H : Hp} {Q : VK} (hs : SqL K H p xs) (fx : flatV x = true) (fs : xs.all flatV = true) (h : Q (.bl (!inV x xs)) H) : rIn K true x (.ref p) H Q := ⟨p, xs, rfl, .inl hs, fx, fs, h⟩
theorem x_notInT {K : PySem.W.Frag} {p : Addr} {xs : List V} {x : V} {H : Hp} {Q : VK} (hs : SqT K H p xs) (fx : flatV x = true) (fs : xs.all flatV = true) (h : Q (.bl (!inV x xs)) H) : rIn K true x (.ref p) H Q := ⟨p, xs, rfl, .inr hs, fx, fs, h⟩
theorem inV_strs (z : Str) (l : List Str) : inV (.str z) (l.map V.str) = decide (z ∈ l) := by
  induction l with
  | nil => rfl
  | cons a r ih =>
    show (eqV (.str a) (.str z) || inV (.str z) (r.map V.str)) = _
    rw [ih]
    show ((a == z) || decide (z ∈ r)) = _
    by_cases h : a = z
    · subst h
      simp
    · have e : (a == z) = false := by simpa using h
      rw [e]
      simp [List.mem_cons, Ne.symm h]
/-- a wish that a walk leaves closed -/
structure Hold (p : Prop) : Prop where
  h : p
/-! ### texts -/
theorem parts_len : ∀ (S L : List Nat) (k : Nat) (acc : List Nat), (TL.spl S k acc L).length ≤ L.length + 1
  | S, [], k, acc => by rw [TL.spl_nil]; simp
  | S, c :: r, 0, acc => by
    by_cases h : TL.pre S (c :: r) = true
    · rw [TL.spl_hit h]
      have := parts_len S r (S.length - 1) []
      simp only [List.length_cons]
      omega
    · rw [TL.spl_miss (by simpa using h)]
      have := parts_len S r 0 (acc ++ [c])
      simp only [List.length_cons]
      omega
  | S, c :: r, k + 1, acc => by
    have := parts_len S r k acc
    have e : TL.spl S (k + 1) acc (c :: r) = TL.spl S k acc r := rfl
    rw [e]
    simp only [List.length_cons]
    omega
theorem parts_le : ∀ (S L : List Nat) (k : Nat) (acc : List Nat), ∀ p ∈ TL.spl S k acc L, p.length ≤ acc.length + L.length
  | S, [], k, acc => by rw [TL.spl_nil]; simp
  | S, c :: r, 0, acc => by
    by_cases h : TL.pre S (c :: r) = true
    · rw [TL.spl_hit h]
      intro p hp
      rcases List.mem_cons.mp hp with rfl | hp
      · omega
      · have := parts_le S r (S.length - 1) [] p hp
        simp only [List.length_cons, List.length_nil] at this ⊢
        omega
    · rw [TL.spl_miss (by simpa using h)]
      intro p hp
      have := parts_le S r 0 (acc ++ [c]) p hp
      simp only [List.length_append, List.length_cons, List.length_nil] at this ⊢
      omega
  | S, c :: r, k + 1, acc => by
    have e : TL.spl S (k + 1) acc (c :: r) = TL.spl S k acc r := rfl
    rw [e]
    intro p hp
    have := parts_le S r k acc p hp
    simp only [List.length_cons]
    omega
theorem split_le {x y : Str} (hy : TL.tl y ≠ []) (h : y.cps.all (· < 256) = true) {p : Str} (hp : p ∈ PySem.Txt.split x y) : p.length ≤ x.length := by
  have e := TL.split_spl x y hy (TL.kind_ok h)
  have hm : TL.tl p ∈ (PySem.Txt.split x y).map TL.tl := List.mem_map.mpr ⟨p, hp, rfl⟩
  rw [e] at hm
  have := parts_le _ _ _ _ _ hm
  rw [TL.len_tl, TL.len_tl]
  simpa using this
theorem split_len (x y : Str) (hy : TL.tl y ≠ []) (h : y.cps.all (· < 256) = true) : (PySem.Txt.split x y).length ≤ x.length + 1 := by
  have e := TL.split_spl x y hy (TL.kind_ok h)
  have l := congrArg List.length e
  rw [List.length_map] at l
  rw [l, TL.len_tl]
  exact parts_len _ _ _ _
end MP
end
section
namespace MP
open PySem L2
def topS (i : Nat) : Stmt := PySem.Challenge.pw_modeplaces_k14_arguments_by_name.main.body.getD i (.Pass ⟨0, 0, 0, 0⟩)
end MP
end
section
open PySem L2 MPX MP
local macro_rules | `(tactic| walk_at "rd1") => `(tactic| first
  | with_reducible refine x_seq ?_
  | with_reducible refine x_next ?_
  | with_reducible refine x_ret ?_
  | with_reducible refine x_retN ?_
  | with_reducible refine x_ifs ?_
  | with_reducible refine x_asg ?_
  | with_reducible refine x_drop ?_
  | with_reducible refine x_name ?_
  | ((with_reducible refine' x_var ?vv ?_); (case vv => exact rfl))
  | with_reducible refine x_c ?_
  | with_reducible refine x_op ?_
  | with_reducible refine x_un ?_
  | with_reducible refine x_test ?_
  | with_reducible refine x_tB ?_
  | with_reducible refine x_and ?_
  | with_reducible refine x_or ?_
  | with_reducible refine x_not ?_
  | with_reducible refine x_andV ?_
  | with_reducible refine x_orV ?_
  | with_reducible refine x_notV ?_
  | with_reducible refine x_if ?_
  | with_reducible refine x_nil ?_
  | with_reducible refine x_cons ?_
  | with_reducible refine x_tup ?_
  | with_reducible refine x_lst ?_
  | with_reducible refine x_cb ?_
  | with_reducible refine x_call ?_
  | with_reducible refine x_callS ?_
  | with_reducible refine x_callP ?_
  | with_reducible refine x_mk0 ?_
  | with_reducible refine x_mk1 ?_
  | with_reducible refine x_mk2 ?_
  | with_reducible refine x_make ?_
  | with_reducible refine x_sfld ?_
  | with_reducible refine x_m0 ?_
  | with_reducible refine x_m1 ?_
  | with_reducible refine x_bm0 ?_
  | with_reducible refine x_bm ?_
  | with_reducible refine x_par ?_
  | with_reducible refine x_ilist ?_
  | with_reducible refine x_itup ?_
  | with_reducible refine x_istr ?_
  | ((with_reducible show tLc _ _ _ _ _ _ _ _); unfold tLc)
  | ((with_reducible show tFor _ _ _ _ _ _); unfold tFor)
  | ((with_reducible refine' x_eq ?vv ?_); (case vv => exact rfl))
  | ((with_reducible refine' x_ne ?vv ?_); (case vv => exact rfl))
  | with_reducible refine x_rI0 ?_
  | with_reducible refine x_dget ?_
  | with_reducible refine x_dput ?_
  | with_reducible refine x_dnew ?_
  | with_reducible refine x_dget1 ?_
  | with_reducible refine x_dget2 ?_
  | with_reducible refine x_sl ?_
  | with_reducible refine x_nopart ?_
  | with_reducible refine x_part ?_
  | ((with_reducible refine' x_slL ?vv ?_); (case vv => (with_reducible assumption)))
  | with_reducible refine x_disp ?_
  | with_reducible refine x_pcons ?_
  | with_reducible refine x_pnil ?_
  | ((with_reducible refine' x_mod ?vv ?_); (case vv => omega); intro r er hr0 hr1; (try clear er))
  | ((with_reducible refine' x_rI ?vv ?_); (case vv => walk_at "sc"))
  | (with_reducible refine Or.inl (Exists.intro _ (And.intro rfl ?_)))
  | with_reducible refine x_T ?_
  | with_reducible refine x_F ?_
  | ((with_reducible show Exists (α := V) _); (with_reducible apply Exists.intro))
  | ((with_reducible show Exists (α := Bool) _); (with_reducible apply Exists.intro))
  | ((with_reducible show Exists (α := Nat) _); (with_reducible apply Exists.intro))
  | ((with_reducible show Exists (α := Int) _); (with_reducible apply Exists.intro))
  | ((with_reducible show Exists (α := List V) _); (with_reducible apply Exists.intro))
  | ((with_reducible show Exists (α := PySem.Str) _); (with_reducible apply Exists.intro))
  | ((with_reducible show Exists (α := Option V) _); (with_reducible apply Exists.intro))
  | ((with_reducible show Exists (α := Option Int) _); (with_reducible apply Exists.intro))
  | ((with_reducible show Exists (α := List (Key × V)) _); (with_reducible apply Exists.intro))
  | refine And.intro rfl ?_
  | ((with_reducible refine And.intro ?vv ?_); (case vv => (first | (with_reducible assumption) | (show _ ≤ sizeLine; decide) | exact len_ok rfl)))
  | (refine And.intro (Exists.intro _ rfl) ?_))
local macro_rules | `(tactic| walk_at "sc") => `(tactic| first
  | (with_reducible assumption)
  | exact divW (by omega) (by omega)
  | exact mulW (by omega) (by omega)
  | exact Or.inl ⟨by omega, by omega⟩
  | exact Or.inr ⟨by omega, by omega⟩
  | (show (_ : Int) ≠ 0; omega)
  | exact ⟨by decide, by decide, by decide⟩
  | decide)
local macro_rules | `(tactic| walk_at "rd") => `(tactic| repeat walk_at "rd1")
namespace MP
open PySem L2
section
variable {P : Program} {w : World} {K : PySem.W.Frag} {mg : Str → Option Value} {base : Heap}
abbrev s__law_pen : Stmt := topS 60
abbrev N__law_pen : List Str := ["_law_script"]
abbrev P__law_pen : List Str := ["_law_script"]
theorem sc__law_pen : FnScope N__law_pen P__law_pen (defScope s__law_pen) := ⟨rfl, rfl, rfl, by decide +kernel, rfl, by decide +kernel, by decide +kernel⟩
abbrev s__law_draw : Stmt := topS 61
abbrev N__law_draw : List Str := ["_law_pen_here", "_law_many", "_law_digit", "_law_at", "_law_cell", "_law_mixed"]
abbrev P__law_draw : List Str := ["_law_pen_here", "_law_many"]
theorem sc__law_draw : FnScope N__law_draw P__law_draw (defScope s__law_draw) := ⟨rfl, rfl, rfl, by decide +kernel, rfl, by decide +kernel, by decide +kernel⟩
abbrev s__law_pick : Stmt := topS 62
abbrev N__law_pick : List Str := ["_law_pen_here", "_law_items"]
abbrev P__law_pick : List Str := ["_law_pen_here", "_law_items"]
theorem sc__law_pick : FnScope N__law_pick P__law_pick (defScope s__law_pick) := ⟨rfl, rfl, rfl, by decide +kernel, rfl, by decide +kernel, by decide +kernel⟩
structure PenTxt (mg : Str → Option Value) : Prop where
  b_len : mg "len" = none
  b_int : mg "int" = none
  b_list : mg "list" = none
def sp_pen (K : PySem.W.Frag) : Sp := fun vs H Q _ => ∃ (c : Addr) (ns : List Int), vs = [.ref c] ∧ SqL K H c (ns.map V.int) ∧ ns.length ≤ 63 ∧ ∀ d H', Same H H' → H d = none → Pen H' d ns 0 → Q (.ref d) H'
theorem ok_pen {f : Addr} {fd : FuncData} (F : Fun K "_law_pen" "_law_pen" s__law_pen f fd) (T : PenTxt mg) : FnOk P w K mg base CX0 1 f fd P__law_pen (sp_pen K) := by
  refine F.ok sc__law_pen (fun vs H Q E h => ?_) (fun cdv A outer s H vs Q E hr h => ?_)
  · obtain ⟨c, ns, rfl, _⟩ := h
    rfl
  · obtain ⟨c, ns, rfl, hc, hn, k⟩ := h
    refine ⟨_, (pss_one (ps_ret (pe_disp (pps_cons pe_str (pe_callTy call_list_of (by rfl) T.b_list (by decide +kernel) (pa_cons (pe_slice sl_list (pv 0) po_none (po_some pe_int)) pa_nil)) (pps_cons pe_str pe_int (pps_cons pe_str pe_int pps_nil))) (by rfl) (by rfl) (fun z => by cases z) (by decide)))), ?_⟩
    show tRet _ _ [some (V.ref c)] H
    dsimp only [cxOf]
    walk_at "rd"
    intro p hp
    have hc1 := (same_upd (o := .dK []) hp).seq hc
    walk_at "rd"
    intro q hq
    walk_at "rd"
    refine And.intro (Or.inl (SqL.of upd_same)) ?_
    intro l hl
    walk_at "rd"
    refine And.intro (upd_new (upd_new upd_same hq) hl) ?_
    refine ⟨[(Sum.inr "cells", .ref l), (Sum.inr "at", .int 0), (Sum.inr "left", .int 0)], rfl, by show 3 ≤ 15; decide, ?_⟩
    have hp1 := (same_upd (o := HO.dK []) hp).free hq
    have sq := (same_upd (o := HO.dK []) hp).trans (same_upd (o := HO.lst (cutV (ns.map V.int) none (some 63))) hq)
    have hql : l ≠ p := (ne_of_none upd_same (same_upd hq |>.free hl)).symm
    have e1 : cutV (ns.map V.int) none (some 63) = ns.map V.int := by
      unfold cutV
      have h0 : HT.sIx (ns.map V.int).length 0 none = 0 := rfl
      have h1 : HT.sIx (ns.map V.int).length (ns.map V.int).length (some 63) = (ns.map V.int).length := by
        rw [show (63 : Int) = ((63 : Nat) : Int) from rfl, HT.sIx_nat, List.length_map]
        omega
      rw [h0, h1]
      simp only [List.drop_zero, Nat.sub_zero]
      exact List.take_length
    refine k p _ ?_ hp ⟨l, 0, 0, ⟨upd_same, ?_, Int.le_refl 0, Int.le_refl 0, hn⟩, by simp⟩
    · intro b o hb
      rw [upd_ne (ne_of_none hb hp)]
      exact upd_new (sq _ _ hb) hl
    · rw [upd_ne hql, upd_same, e1]
def PenL (H : Hp) (d l : Addr) (ns : List Int) (n : Nat) : Prop := ∃ a b, PenAt H d l ns a b ∧ a ≤ (n : Int)
theorem PenL.mono {H H' : Hp} {d l : Addr} {ns : List Int} {n : Nat} (p : PenL H d l ns n) (s : Same H H') : PenL H' d l ns n := let ⟨a, b, p, h⟩ := p; ⟨a, b, p.mono s, h⟩
theorem PenL.le {H : Hp} {d l : Addr} {ns : List Int} {n m : Nat} (p : PenL H d l ns n) (h : n ≤ m) : PenL H d l ns m := let ⟨a, b, p, q⟩ := p; ⟨a, b, p, by omega⟩
/-- a store elsewhere -/
theorem PenL.off {H : Hp} {d l : Addr} {ns : List Int} {n : Nat} {D : Addr} {o : HO} (p : PenL H d l ns n) (h1 : D ≠ d) (h2 : D ≠ l) : PenL (upd H D o) d l ns n := let ⟨a, b, p, q⟩ := p; ⟨a, b, ⟨by rw [upd_ne (Ne.symm h1)]; exact p.dc, by rw [upd_ne (Ne.symm h2)]; exact p.cl, p.na, p.nb, p.len⟩, q⟩
theorem PenL.ne {H : Hp} {d l : Addr} {ns : List Int} {n : Nat} {D : Addr} (p : PenL H d l ns n) (h : H D = none) : D ≠ d ∧ D ≠ l := let ⟨a, b, p, q⟩ := p; ⟨fun z => (by rw [z, p.dc] at h; cases h), fun z => (by rw [z, p.cl] at h; cases h)⟩
def sp_draw : Sp := fun vs H Q _ => ∃ (d l : Addr) (many : Int) (ns : List Int) (n : Nat), vs = [.ref d, .int many] ∧ PenL H d l ns n ∧ n < 1000000000 ∧ 0 < many ∧ many < 1000000000 ∧ ∀ z H', 0 ≤ z → z < many → Kept d H H' → PenL H' d l ns (n + 1) → Q (.int z) H'
theorem ok_draw {f : Addr} {fd : FuncData} (F : Fun K "_law_draw" "_law_draw" s__law_draw f fd) (T : PenTxt mg) : FnOk P w K mg base CX0 1 f fd P__law_draw sp_draw := by
  refine F.ok sc__law_draw (fun vs H Q E h => ?_) (fun cdv A outer s H vs Q E hr h => ?_)
  · obtain ⟨d, l, many, ns, n, rfl, _⟩ := h
    rfl
  · obtain ⟨d, l, many, ns, n, rfl, ⟨a, b, p, ha⟩, hn, hm, hm2, k⟩ := h
    have hu := hu_of hr
    refine ⟨_, (pss_cons (ps_if (pt_cmpR op_ge (pe_dget hu (pv 0) pe_str (fun _ _ => rfl)) (pv 1) (nomark _)) (pss_cons (ps_set (i := 2) sc__law_draw.nd rfl (Or.inl rfl) (pe_op op_modN (pe_callTy call_int1 (by rfl) T.b_int (by decide +kernel) (pa_cons (pe_dget hu (pv 0) pe_str (fun _ _ => rfl)) pa_nil)) (pv 1)))
      (pss_cons (ps_dput hu (pv 0) pe_str (pe_op op_fdivW (pe_dget hu (pv 0) pe_str (fun _ _ => rfl)) (pv 1)) rfl)
      (pss_one (ps_ret (pv 2))))) pss_nil)
      (pss_cons (ps_set (i := 3) sc__law_draw.nd rfl (Or.inl rfl) (pe_dget hu (pv 0) pe_str (fun _ _ => rfl)))
      (pss_cons (ps_dput hu (pv 0) pe_str (pe_op op_add (pv 3) pe_int) rfl)
      (pss_cons (ps_set (i := 4) sc__law_draw.nd rfl (Or.inl rfl) (pe_op op_add (pe_op op_mulW pe_int (pv 3)) pe_int))
      (pss_word (ps_if (pt_cmpR (op_neD hr.units) (pe_dget hu (pv 0) pe_str (fun _ _ => rfl)) (pe_lst pa_nil) (nomark _)) (pss_one (ps_set (i := 4) sc__law_draw.nd rfl (Or.inl rfl) (pe_ix ix_list (pe_dget hu (pv 0) pe_str (fun _ _ => rfl)) (pe_op op_modN (pe_callTy call_int1 (by rfl) T.b_int (by decide +kernel) (pa_cons (pv 3) pa_nil)) (pe_callB call_len_seq (by rfl) T.b_len (by decide +kernel) (pa_cons (pe_dget hu (pv 0) pe_str (fun _ _ => rfl)) pa_nil))) (fun _ _ => rfl)))) pss_nil)
      (pss_cons (ps_if (PW.pt (pw_and (pt_cmpR op_lt (pv 3) (pe_callB call_len_seq (by rfl) T.b_len (by decide +kernel) (pa_cons (pe_dget hu (pv 0) pe_str (fun _ _ => rfl)) pa_nil)) (nomark _)) (pw_and1 (pt_cmpR op_ge (pv 4) (pe_op op_pow pe_int pe_int) (nomark _))))) (pss_cons (ps_dput hu (pv 0) pe_str (pe_op op_fdivW (pe_op op_sub (pv 4) (pe_op op_pow pe_int pe_int)) (pv 1)) rfl)
      (pss_one (ps_ret (pe_op op_modN (pe_callTy call_int1 (by rfl) T.b_int (by decide +kernel) (pa_cons (pe_op op_sub (pv 4) (pe_op op_pow pe_int pe_int)) pa_nil)) (pv 1))))) pss_nil)
      (pss_cons (ps_set (i := 5) sc__law_draw.nd rfl (Or.inl rfl) (pe_op op_add (pe_op op_add (pe_op op_add (pe_op op_mulW (pe_op op_modN (pe_callTy call_int1 (by rfl) T.b_int (by decide +kernel) (pa_cons (pv 4) pa_nil)) pe_int) pe_int) (pe_op op_mulW (pe_op op_mulW pe_int (pv 3)) (pv 3))) (pe_op op_mulW pe_int (pv 3))) pe_int))
      (pss_cons (ps_set (i := 5) sc__law_draw.nd rfl (Or.inl rfl) (pe_op op_modN (pe_callTy call_int1 (by rfl) T.b_int (by decide +kernel) (pa_cons (pv 5) pa_nil)) pe_int))
      (pss_cons (ps_set (i := 5) sc__law_draw.nd rfl (Or.inl rfl) (pe_op op_modN (pe_callTy call_int1 (by rfl) T.b_int (by decide +kernel) (pa_cons (pe_op op_mulW (pv 5) (pe_op op_add (pv 5) pe_int)) pa_nil)) pe_int))
      (pss_one (ps_ret (pe_op op_modN (pe_callTy call_int1 (by rfl) T.b_int (by decide +kernel) (pa_cons (pe_op op_fdivW (pe_op op_modN (pe_callTy call_int1 (by rfl) T.b_int (by decide +kernel) (pa_cons (pe_op op_mulW (pv 5) (pv 5)) pa_nil)) pe_int) pe_int) pa_nil)) (pv 1))))))))))))), ?_⟩
    show tSeq _ _ _ [some (V.ref d), some (V.int many), none, none, none, none] H
    dsimp only [cxOf]
    have g1 := dget_s p.dc (pen_cells l a b)
    have g2 := dget_s p.dc (pen_at l a b)
    have g3 := dget_s p.dc (pen_left l a b)
    walk_at "rd"
    refine x_D (fun hle => ?_) (fun hle => ?_)
    · walk_at "rd"
      refine ⟨_, rfl, dput_s p.dc (pen_small l a b) (pen_put_left l a b _), ?_⟩
      walk_at "rd"
      exact k _ _ (by assumption) (by assumption) Kept.put ⟨a, _, p.toLeft (Int.ediv_nonneg p.nb (by omega)), by omega⟩
    · walk_at "rd"
      refine ⟨_, rfl, dput_s p.dc (pen_small l a b) (pen_put_at l a b _), ?_⟩
      have p1 := p.toAt (z := a + 1) (by have := p.na; omega)
      have g1 := dget_s p1.dc (pen_cells l (a + 1) b)
      have g2 := dget_s p1.dc (pen_at l (a + 1) b)
      have g3 := dget_s p1.dc (pen_left l (a + 1) b)
      have hna := p.na
      walk_at "rd"
      refine ⟨fun σ' H' => ∃ c : Int, σ' = [some (V.ref d), some (V.int many), none, some (V.int a), some (V.int c), none] ∧ PenAt H' d l ns (a + 1) b ∧ Kept d H H', ?_, ?_⟩
      · walk_at "rd"
        intro q hq
        have p2 := p1.mono (same_upd (o := .lst []) hq)
        have g1 := dget_s p2.dc (pen_cells l (a + 1) b)
        have g2 := dget_s p2.dc (pen_at l (a + 1) b)
        have kp : Kept d H (upd (upd H d (.dK (penK l (a + 1) b))) q (.lst [])) := Kept.put.trans (Kept.of (same_upd hq))
        refine x_neNil (SqL.of (upd_new p1.cl hq)) upd_same ?_
        walk_at "rd"
        refine x_NB (fun hne => ?_) (fun hne => ?_)
        · have hl0 : 0 < ns.length := by
            cases ns with
            | nil => cases hne
            | cons x r => simp
          have hl1 : 0 < (ns.map V.int).length := by rw [List.length_map]; exact hl0
          walk_at "rd"
          refine ⟨Or.inl (SqL.of p2.cl), ?_⟩
          refine x_mod (by omega) (fun r _ hr0 hr1 => ?_)
          obtain ⟨v, hv, hmem⟩ := at_mod hr0 hr1
          obtain ⟨z, _, rfl⟩ := List.mem_map.mp hmem
          refine x_ixL (SqL.of p2.cl) hv ?_
          exact ⟨z, rfl, p2, kp⟩
        · exact ⟨41 * a + 23, rfl, p2, kp⟩
      · rintro σ' H' ⟨c, rfl, p2, kp⟩
        have g1 := dget_s p2.dc (pen_cells l (a + 1) b)
        have g3 := dget_s p2.dc (pen_left l (a + 1) b)
        have done : ∀ z : Int, 0 ≤ z → z < many → Q (V.int z) H' := fun z h0 h1 => k z H' h0 h1 kp ⟨a + 1, b, p2, by omega⟩
        walk_at "rd"
        refine ⟨Or.inl (SqL.of p2.cl), ?_⟩
        walk_at "rd"
        refine x_B (fun hlt => ?_) (fun hlt => ?_)
        · walk_at "rd"
          refine x_D (fun hle => ?_) (fun hle => ?_)
          · walk_at "rd"
            refine ⟨_, rfl, dput_s p2.dc (pen_small l _ b) (pen_put_left l _ b _), ?_⟩
            have p3 := p2.toLeft (z := (c - 10 ^ (18 : Int).toNat) / many) (Int.ediv_nonneg (Int.sub_nonneg_of_le hle) (by omega))
            walk_at "rd"
            exact k _ _ (by assumption) (by assumption) (kp.trans Kept.put) ⟨a + 1, _, p3, by omega⟩
          · walk_at "rd"
            exact done _ (by assumption) (by assumption)
        · walk_at "rd"
          exact done _ (by assumption) (by assumption)
/-- one sign of a text -/
def sp_pickS : Sp := fun vs H Q _ => ∃ (d l : Addr) (z : Str) (ns : List Int) (n : Nat), vs = [.ref d, .str z] ∧ PenL H d l ns n ∧ n < 1000000000 ∧ 0 < z.length ∧ z.length < 1000000 ∧
  ∀ c H', c ∈ z.cps.toList → Kept d H H' → PenL H' d l ns (n + 1) → Q (.str ⟨#[c]⟩) H'
theorem ok_pickS {f : Addr} {fd : FuncData} (F : Fun K "_law_pick" "_law_pick" s__law_pick f fd) (T : PenTxt mg) (c__law_draw : Cal P w K mg base 1 "_law_draw" sp_draw) : FnOk P w K mg base (L2.CX P w) 2 f fd P__law_pick sp_pickS := by
  refine F.okX sc__law_pick (fun vs H Q E h => ?_) (fun cdv A outer s H vs Q E hr h => ?_)
  · obtain ⟨d, l, z, ns, n, rfl, _⟩ := h
    rfl
  · obtain ⟨d, l, z, ns, n, rfl, p, hn, h0, h1, k⟩ := h
    refine ⟨_, (pss_one (ps_ret (pe_ix ix_seq (pv 1) (pe_cc c__law_draw hr (by decide) rfl (pa_cons (pv 0) (pa_cons (pe_callB call_len (by rfl) T.b_len (by decide +kernel) (pa_cons (pv 1) pa_nil)) pa_nil))) (fun _ _ => rfl)))), ?_⟩
    show tRet _ _ [some (V.ref d), some (V.str z)] H
    dsimp only [cxOf]
    walk_at "rd"
    refine And.intro ⟨by have : sizeLine = 16777216 := sizeLine_eq; omega, rfl⟩ ?_
    refine ⟨d, l, z.length, ns, n, rfl, p, hn, by omega, by omega, fun i H' hi0 hi1 kp p' => ?_⟩
    obtain ⟨c, hc, hm⟩ := at_mod (xs := z.cps.toList) hi0 (by simpa [Str.length] using hi1)
    exact x_ixSeqS (by have : sizeLine = 16777216 := sizeLine_eq; omega) hc (k c H' hm kp p')
end
end MP
end
section
open PySem L2 MPX MP
local macro_rules | `(tactic| walk_at "rd1") => `(tactic| first
  | with_reducible refine x_seq ?_
  | with_reducible refine x_next ?_
  | with_reducible refine x_ret ?_
  | with_reducible refine x_retN ?_
  | with_reducible refine x_ifs ?_
  | with_reducible refine x_asg ?_
  | with_reducible refine x_drop ?_
  | with_reducible refine x_name ?_
  | ((with_reducible refine' x_var ?vv ?_); (case vv => exact rfl))
  | with_reducible refine x_c ?_
  | with_reducible refine x_op ?_
  | with_reducible refine x_un ?_
  | with_reducible refine x_test ?_
  | with_reducible refine x_tB ?_
  | with_reducible refine x_and ?_
  | with_reducible refine x_or ?_
  | with_reducible refine x_not ?_
  | with_reducible refine x_andV ?_
  | with_reducible refine x_orV ?_
  | with_reducible refine x_notV ?_
  | with_reducible refine x_if ?_
  | with_reducible refine x_nil ?_
  | with_reducible refine x_cons ?_
  | with_reducible refine x_tup ?_
  | with_reducible refine x_lst ?_
  | with_reducible refine x_cb ?_
  | with_reducible refine x_call ?_
  | with_reducible refine x_callS ?_
  | with_reducible refine x_callP ?_
  | with_reducible refine x_mk0 ?_
  | with_reducible refine x_mk1 ?_
  | with_reducible refine x_mk2 ?_
  | with_reducible refine x_make ?_
  | with_reducible refine x_sfld ?_
  | with_reducible refine x_m0 ?_
  | with_reducible refine x_m1 ?_
  | with_reducible refine x_bm0 ?_
  | with_reducible refine x_bm ?_
  | with_reducible refine x_par ?_
  | with_reducible refine x_ilist ?_
  | with_reducible refine x_itup ?_
  | with_reducible refine x_istr ?_
  | ((with_reducible show tLc _ _ _ _ _ _ _ _); unfold tLc)
  | ((with_reducible show tFor _ _ _ _ _ _); unfold tFor)
  | ((with_reducible refine' x_eq ?vv ?_); (case vv => exact rfl))
  | ((with_reducible refine' x_ne ?vv ?_); (case vv => exact rfl))
  | with_reducible refine x_rI0 ?_
  | with_reducible refine x_dget ?_
  | with_reducible refine x_dput ?_
  | with_reducible refine x_dnew ?_
  | with_reducible refine x_dget1 ?_
  | with_reducible refine x_dget2 ?_
  | with_reducible refine x_sl ?_
  | with_reducible refine x_nopart ?_
  | with_reducible refine x_part ?_
  | ((with_reducible refine' x_slL ?vv ?_); (case vv => (with_reducible assumption)))
  | with_reducible refine x_disp ?_
  | with_reducible refine x_pcons ?_
  | with_reducible refine x_pnil ?_
  | ((with_reducible refine' x_mod ?vv ?_); (case vv => omega); intro r er hr0 hr1; (try clear er))
  | ((with_reducible refine' x_rI ?vv ?_); (case vv => walk_at "sc"))
  | (with_reducible refine Or.inl (Exists.intro _ (And.intro rfl ?_)))
  | with_reducible refine x_T ?_
  | with_reducible refine x_F ?_
  | ((with_reducible show Exists (α := V) _); (with_reducible apply Exists.intro))
  | ((with_reducible show Exists (α := Bool) _); (with_reducible apply Exists.intro))
  | ((with_reducible show Exists (α := Nat) _); (with_reducible apply Exists.intro))
  | ((with_reducible show Exists (α := Int) _); (with_reducible apply Exists.intro))
  | ((with_reducible show Exists (α := List V) _); (with_reducible apply Exists.intro))
  | ((with_reducible show Exists (α := PySem.Str) _); (with_reducible apply Exists.intro))
  | ((with_reducible show Exists (α := Option V) _); (with_reducible apply Exists.intro))
  | ((with_reducible show Exists (α := Option Int) _); (with_reducible apply Exists.intro))
  | ((with_reducible show Exists (α := List (Key × V)) _); (with_reducible apply Exists.intro))
  | refine And.intro rfl ?_
  | ((with_reducible refine And.intro ?vv ?_); (case vv => (first | (with_reducible assumption) | (show _ ≤ sizeLine; decide) | exact len_ok rfl)))
  | (refine And.intro (Exists.intro _ rfl) ?_))
local macro_rules | `(tactic| walk_at "sc") => `(tactic| first
  | (with_reducible assumption)
  | exact divW (by omega) (by omega)
  | exact mulW (by omega) (by omega)
  | exact Or.inl ⟨by omega, by omega⟩
  | exact Or.inr ⟨by omega, by omega⟩
  | (show (_ : Int) ≠ 0; omega)
  | exact ⟨by decide, by decide, by decide⟩
  | decide)
local macro_rules | `(tactic| walk_at "rd") => `(tactic| repeat walk_at "rd1")
namespace MP
open PySem L2
section
variable {P : Program} {w : World} {K : PySem.W.Frag} {mg : Str → Option Value} {base : Heap} {ts : Nat → Tok} {kw : Addr}
abbrev s_words_of : Stmt := topS 15
abbrev N_words_of : List Str := ["line", "word"]
abbrev P_words_of : List Str := ["line"]
theorem sc_words_of : FnScope N_words_of P_words_of (defScope s_words_of) := ⟨rfl, rfl, rfl, by decide +kernel, rfl, by decide +kernel, by decide +kernel⟩
abbrev s_is_made_of : Stmt := topS 16
abbrev N_is_made_of : List Str := ["word", "signs", "sign"]
abbrev P_is_made_of : List Str := ["word", "signs"]
theorem sc_is_made_of : FnScope N_is_made_of P_is_made_of (defScope s_is_made_of) := ⟨rfl, rfl, rfl, by decide +kernel, rfl, by decide +kernel, by decide +kernel⟩
abbrev s_is_name : Stmt := topS 17
abbrev N_is_name : List Str := ["word"]
abbrev P_is_name : List Str := ["word"]
theorem sc_is_name : FnScope N_is_name P_is_name (defScope s_is_name) := ⟨rfl, rfl, rfl, by decide +kernel, rfl, by decide +kernel, by decide +kernel⟩
abbrev s_is_price : Stmt := topS 18
abbrev N_is_price : List Str := ["word"]
abbrev P_is_price : List Str := ["word"]
theorem sc_is_price : FnScope N_is_price P_is_price (defScope s_is_price) := ⟨rfl, rfl, rfl, by decide +kernel, rfl, by decide +kernel, by decide +kernel⟩
abbrev s_item_of : Stmt := topS 19
abbrev N_item_of : List Str := ["word", "parts"]
abbrev P_item_of : List Str := ["word"]
theorem sc_item_of : FnScope N_item_of P_item_of (defScope s_item_of) := ⟨rfl, rfl, rfl, by decide +kernel, rfl, by decide +kernel, by decide +kernel⟩
def keyW : List Str := ["mode", "start", "proc", "do", "either", "or", "end", "loop", "ever", "leave", "back", "stop", "call", "set"]
def lettersS : Str := "abcdefghijklmnopqrstuvwxyz"
def digitsS : Str := "0123456789"
structure WordTxt (K : PySem.W.Frag) (mg : Str → Option Value) (ts : Nat → Tok) (kw : Addr) : Prop where
  b_len : mg "len" = none
  b_int : mg "int" = none
  g_KEYWORDS : mg "KEYWORDS" = some (.ref kw)
  g_LETTERS : mg "LETTERS" = some (.str lettersS (ts 0))
  g_DIGITS : mg "DIGITS" = some (.str digitsS (ts 1))
  g_LONGEST_NAME : mg "LONGEST_NAME" = some (.int 12 (ts 2))
  g_MOST_PRICE : mg "MOST_PRICE" = some (.int 1000000000000000000000000000000 (ts 3))
  g_MOST_DIGITS : mg "MOST_DIGITS" = some (.int 31 (ts 4))
  kwT : ∀ H, SqT K H kw (keyW.map V.str)
/-! words_of -/
def wordsOf (z : Str) : List Str := (PySem.Txt.split z " ").filter (fun w => !decide (w = ("" : Str)))
theorem wordsOf_map (l : List Str) : ((l.map V.str).filter fun v => !decide (v = V.str "")).map id = (l.filter (fun w => !decide (w = ("" : Str)))).map V.str := by
  rw [List.map_id]
  induction l with
  | nil => rfl
  | cons a r ih =>
    have e : (decide (V.str a = V.str "")) = decide (a = ("" : Str)) := by
      by_cases h : a = ("" : Str) <;> simp [h]
    rw [List.map_cons, List.filter_cons, List.filter_cons, e]
    split
    · rw [List.map_cons, ih]
    · exact ih
def sp_words_of : Sp := fun vs H Q _ => ∃ z : Str, vs = [.str z] ∧ z.length ≤ 10000 ∧ ∀ p H', Same H H' → H p = none → H' p = some (.lst ((wordsOf z).map V.str)) → Q (.ref p) H'
theorem ok_words_of {f : Addr} {fd : FuncData} (F : Fun K "words_of" "words_of" s_words_of f fd) : FnOk P w K mg base CX0 1 f fd P_words_of sp_words_of := by
  refine F.ok sc_words_of (fun vs H Q E h => ?_) (fun cdv A outer s H vs Q E hr h => ?_)
  · obtain ⟨z, rfl, _⟩ := h
    rfl
  · obtain ⟨z, rfl, hz, k⟩ := h
    refine ⟨_, (pss_one (ps_ret (pe_lc (own := [("word", 1)]) (g := gName 1) rfl sc_words_of.nd (pi_list (pe_split (pv 0) pe_str)) (blkOk_by (own := [("word", 1)]) (N := N_words_of) (sc := defScope s_words_of) (by decide +kernel)) (fun _ _ _ _ _ => (pg_name (i := 1) sc_words_of.nd rfl (Or.inl rfl))) (fun _ _ _ _ _ => (pts_one (pt_cmpR op_ne (pv 1) pe_str (nomark _)))) (fun _ _ _ _ _ => (pv 1))))), ?_⟩
    show tRet _ _ [some (V.str z), none] H
    have hl : ((PySem.Txt.split z " ").map V.str).length < 100000 := by
      have := split_len z " " (by decide +kernel) (by decide +kernel)
      rw [List.length_map]; omega
    walk_at "rd"
    refine ⟨by have := big5; omega, fun p hp => ?_⟩
    walk_at "rd"
    refine ⟨⟨_, SqL.of upd_same⟩, fun D hD => ?_⟩
    refine lc_pure (K := K) (fun v => !decide (v = V.str "")) id (SqL.of upd_same) hD hl (fun x H' acc R hx hs hacc hln h1 h2 => ?_) ?_
    · obtain ⟨y, hy, rfl⟩ := List.mem_map.mp hx
      walk_at "rd"
      refine x_B (fun h => ?_) (fun h => ?_)
      · walk_at "rd"
        exact h1 h
      · exact h2 h
    · rw [wordsOf_map]
      exact k _ _ ((same_upd hp).trans (same_upd hD)) ((same_upd hp).free hD) upd_same
/-! is_made_of -/
def madeOf (z s : Str) : Bool := z.cps.toList.all fun c => decide (c ∈ s.cps.toList)
def sp_is_made_of : Sp := fun vs H Q _ => ∃ z s : Str, vs = [.str z, .str s] ∧ z.length ≤ 10000 ∧ Q (.bl (madeOf z s)) H
theorem ok_is_made_of {f : Addr} {fd : FuncData} (F : Fun K "is_made_of" "is_made_of" s_is_made_of f fd) : FnOk P w K mg base CX0 1 f fd P_is_made_of sp_is_made_of := by
  refine F.ok sc_is_made_of (fun vs H Q E h => ?_) (fun cdv A outer s H vs Q E hr h => ?_)
  · obtain ⟨z, s, rfl, _⟩ := h
    rfl
  · obtain ⟨z, y, rfl, hz, k⟩ := h
    refine ⟨_, (pss_cons (ps_for PassesOwn.never rfl (pi_str (pv 0)) (pg_name (i := 2) sc_is_made_of.nd rfl (Or.inl rfl))
      (pss_one (ps_if (pt_cmpR op_notIn_sign (pv 2) (pv 1) rfl) (pss_one (ps_ret pe_bl)) pss_nil)))
      (pss_one (ps_ret pe_bl))), ?_⟩
    show tSeq _ _ _ [some (V.str z), some (V.str y), none] H
    walk_at "rd"
    refine for_it walk_str (fun i σ H' => Hold (∃ x, σ = [some (V.str z), some (V.str y), x] ∧ H' = H ∧ ∀ c ∈ z.cps.toList.take i, c ∈ y.cps.toList)) ⟨none, rfl, rfl, fun c hc => nomatch hc⟩ (fun _ _ _ _ _ => trivial) ?_ ?_
    · rintro i v σ H' H'' hi ⟨x, rfl, rfl, ha⟩ ⟨rfl, c, hc, rfl⟩
      have hc2 : z.cps.toList[i]? = some c := by simpa using hc
      walk_at "rd"
      refine x_NB (fun h => ?_) (fun h => ?_)
      · walk_at "rd"
        have e : madeOf z y = false := by
          unfold madeOf
          rw [List.all_eq_false]
          exact ⟨c, List.mem_of_getElem? hc2, by simpa using h⟩
        rw [← e]
        exact k
      · walk_at "rd"
        refine ⟨_, rfl, rfl, fun d hd => ?_⟩
        rw [List.take_add_one, hc2] at hd
        rcases List.mem_append.mp hd with hd | hd
        · exact ha d hd
        · rw [show d = c by simpa using hd]
          simpa using h
    · rintro σ H' ⟨x, rfl, rfl, ha⟩
      walk_at "rd"
      have e : madeOf z y = true := by
        unfold madeOf
        rw [List.all_eq_true]
        intro c hc
        have := ha c (by rw [List.take_of_length_le (by simp)]; exact hc)
        simpa using this
      rw [← e]
      exact k
/-! is_name -/
def isName (z : Str) : Bool := !(decide (z = ("" : Str)) || decide (12 < z.length) || decide (z ∈ keyW)) && madeOf z lettersS
def sp_is_name : Sp := fun vs H Q _ => ∃ z : Str, vs = [.str z] ∧ z.length ≤ 10000 ∧ Q (.bl (isName z)) H
theorem ok_is_name {f : Addr} {fd : FuncData} (F : Fun K "is_name" "is_name" s_is_name f fd) (T : WordTxt K mg ts kw) (c_is_made_of : Cal P w K mg base 1 "is_made_of" sp_is_made_of) : FnOk P w K mg base CX0 2 f fd P_is_name sp_is_name := by
  refine F.ok sc_is_name (fun vs H Q E h => ?_) (fun cdv A outer s H vs Q E hr h => ?_)
  · obtain ⟨z, rfl, _⟩ := h
    rfl
  · obtain ⟨z, rfl, hz, k⟩ := h
    refine ⟨_, (pss_cons (ps_if (PW.pt (pw_or (pt_cmpR op_eq (pv 0) pe_str (nomark _)) (pw_or (pt_cmpR op_gt (pe_callB call_len_str (by rfl) T.b_len (by decide +kernel) (pa_cons (pv 0) pa_nil)) (pe_glob (v := V.int _) rfl T.g_LONGEST_NAME ⟨_, rfl⟩) (nomark _)) (pw_or1 (pt_cmpR op_in_seq (pv 0) (pe_glob (v := V.ref _) rfl T.g_KEYWORDS rfl) rfl))))) (pss_one (ps_ret pe_bl)) pss_nil)
      (pss_one (ps_ret (pe_cc c_is_made_of hr (by decide) rfl (pa_cons (pv 0) (pa_cons (pe_glob (v := V.str _) rfl T.g_LETTERS ⟨_, rfl⟩) pa_nil)))))), ?_⟩
    show tSeq _ _ _ [some (V.str z)] H
    walk_at "rd"
    have hz2 : z.length ≤ sizeLine := Nat.le_trans hz (by decide)
    refine x_D (fun h1 => ?_) (fun h1 => ?_)
    · walk_at "rd"
      have e : isName z = false := by
        unfold isName
        rw [decide_eq_true (V.str.inj h1)]
        rfl
      rw [← e]
      exact k
    walk_at "rd"
    refine x_D (fun h2 => ?_) (fun h2 => ?_)
    · walk_at "rd"
      have e : isName z = false := by
        unfold isName
        rw [decide_eq_true (show 12 < z.length by omega)]
        simp
      rw [← e]
      exact k
    walk_at "rd"
    refine x_inT (T.kwT H) rfl rfl ?_
    walk_at "rd"
    rw [inV_strs]
    refine x_D (fun h3 => ?_) (fun h3 => ?_)
    · walk_at "rd"
      have e : isName z = false := by
        unfold isName
        rw [decide_eq_true h3]
        simp
      rw [← e]
      exact k
    walk_at "rd"
    refine ⟨z, lettersS, rfl, hz, ?_⟩
    have e : isName z = madeOf z lettersS := by
      unfold isName
      rw [decide_eq_false (fun e => h1 (by rw [e])), decide_eq_false (show ¬ 12 < z.length by omega), decide_eq_false h3]
      rfl
    rw [← e]
    exact k
/-! is_price -/
def priceOf (z : Str) : Int := (PySem.intText? z).getD 0
def isPrice (z : Str) : Bool := !(decide (z = ("" : Str)) || decide (31 < z.length) || !madeOf z digitsS || decide (z.cps.toList[0]? = some 48)) && decide (priceOf z ≤ 1000000000000000000000000000000)
theorem price_text {z : Str} (h0 : z ≠ "") (h1 : z.length ≤ 31) (h2 : madeOf z digitsS = true) : PySem.intText? z = some (priceOf z) := by
  have hd : ∀ c ∈ z.cps.toList, 48 ≤ c ∧ c ≤ 57 := fun c hc => by
    have := of_decide_eq_true (List.all_eq_true.mp h2 c hc)
    have e : digitsS.cps.toList = [48, 49, 50, 51, 52, 53, 54, 55, 56, 57] := by decide +kernel
    rw [e] at this
    simp only [List.mem_cons, List.not_mem_nil, or_false] at this
    omega
  have hz : z.cps.toList ≠ [] := fun e => h0 (by
    cases z with
    | mk a => rw [show a = #[] by simpa using e]; rfl)
  have q : ∃ n, PySem.intText? z = some n := ⟨_, PySem.intText_digits (fun c hc => hd c hc) hz (by omega)⟩
  obtain ⟨n, q⟩ := q
  unfold priceOf
  rw [q]
  rfl
def sp_is_price : Sp := fun vs H Q _ => ∃ z : Str, vs = [.str z] ∧ z.length ≤ 10000 ∧ Q (.bl (isPrice z)) H
theorem ok_is_price {f : Addr} {fd : FuncData} (F : Fun K "is_price" "is_price" s_is_price f fd) (T : WordTxt K mg ts kw) (c_is_made_of : Cal P w K mg base 1 "is_made_of" sp_is_made_of) : FnOk P w K mg base CX0 2 f fd P_is_price sp_is_price := by
  refine F.ok sc_is_price (fun vs H Q E h => ?_) (fun cdv A outer s H vs Q E hr h => ?_)
  · obtain ⟨z, rfl, _⟩ := h
    rfl
  · obtain ⟨z, rfl, hz, k⟩ := h
    refine ⟨_, (pss_cons (ps_if (PW.pt (pw_or (pt_cmpR op_eq (pv 0) pe_str (nomark _)) (pw_or (pt_cmpR op_gt (pe_callB call_len_str (by rfl) T.b_len (by decide +kernel) (pa_cons (pv 0) pa_nil)) (pe_glob (v := V.int _) rfl T.g_MOST_DIGITS ⟨_, rfl⟩) (nomark _)) (pw_or (pt_not (pt_val (pe_cc c_is_made_of hr (by decide) rfl (pa_cons (pv 0) (pa_cons (pe_glob (v := V.str _) rfl T.g_DIGITS ⟨_, rfl⟩) pa_nil))))) (pw_or1 (pt_cmpR op_eq (pe_ix ix_str (pv 0) pe_int (fun _ _ => rfl)) pe_str (nomark _))))))) (pss_one (ps_ret pe_bl)) pss_nil)
      (pss_one (ps_ret (pe_cmpR op_le (pe_callTy call_int_str (by rfl) T.b_int (by decide +kernel) (pa_cons (pv 0) pa_nil)) (pe_glob (v := V.int _) rfl T.g_MOST_PRICE ⟨_, rfl⟩) (nomark _))))), ?_⟩
    show tSeq _ _ _ [some (V.str z)] H
    walk_at "rd"
    have hz2 : z.length ≤ sizeLine := Nat.le_trans hz (by decide)
    refine x_D (fun h1 => ?_) (fun h1 => ?_)
    · walk_at "rd"
      have e : isPrice z = false := by
        unfold isPrice
        rw [decide_eq_true (V.str.inj h1)]
        rfl
      rw [← e]
      exact k
    walk_at "rd"
    refine x_D (fun h2 => ?_) (fun h2 => ?_)
    · walk_at "rd"
      have e : isPrice z = false := by
        unfold isPrice
        rw [decide_eq_true (show 31 < z.length by omega)]
        simp
      rw [← e]
      exact k
    walk_at "rd"
    refine ⟨z, digitsS, rfl, hz, ?_⟩
    walk_at "rd"
    refine x_NB (fun h3 => ?_) (fun h3 => ?_)
    · walk_at "rd"
      have e : isPrice z = false := by
        unfold isPrice
        rw [h3]
        simp
      rw [← e]
      exact k
    walk_at "rd"
    obtain ⟨c, r, hc⟩ : ∃ c r, z.cps.toList = c :: r := by
      cases e : z.cps.toList with
      | nil =>
        refine absurd ?_ h1
        cases z with
        | mk a => rw [show a = #[] by simpa using e]; rfl
      | cons c r => exact ⟨c, r, rfl⟩
    refine ⟨z, 0, c, rfl, rfl, hz2, by rw [hc]; exact atI_nat (xs := c :: r) (j := 0) rfl, ?_⟩
    walk_at "rd"
    have hs : ∀ c : Nat, (V.str ⟨#[c]⟩ = V.str "0") ↔ c = 48 := fun c => ⟨fun e => by
      have h := congrArg Str.cps (V.str.inj e)
      rw [show (Str.ofString "0").cps = #[48] by decide +kernel] at h
      have h2 : #[c] = #[48] := h
      simpa using h2, fun e => by rw [e]; decide +kernel⟩
    refine x_D (fun h4 => ?_) (fun h4 => ?_)
    · walk_at "rd"
      have e : isPrice z = false := by
        unfold isPrice
        rw [hc, (hs c).mp h4]
        simp
      rw [← e]
      exact k
    walk_at "rd"
    have h31 : z.length ≤ 31 := by omega
    have h0 : z ≠ "" := fun e => h1 (by rw [e])
    refine ⟨price_text h0 h31 h3, by omega, ?_⟩
    walk_at "rd"
    have e : isPrice z = decide (priceOf z ≤ 1000000000000000000000000000000) := by
      unfold isPrice
      rw [decide_eq_false h0, decide_eq_false (show ¬ 31 < z.length by omega), h3, hc, decide_eq_false (show ¬ (c :: r)[0]? = some 48 from fun e => h4 ((hs c).mpr (by simpa using e)))]
      simp
    rw [← e]
    exact k
/-! item_of -/
def itemP : List Str → Option (Str × Str)
  | [a, b] => if isName a && (decide (b = ("?" : Str)) || isName b) then some (a, b) else none
  | _ => none
def itemOf (z : Str) : Option (Str × Str) := itemP (PySem.Txt.split z "=")
def sp_item_of : Sp := fun vs H Q _ => ∃ z : Str, vs = [.str z] ∧ z.length ≤ 10000 ∧ (itemOf z = none → ∀ H', Same H H' → Q .non H') ∧ ∀ a b p H', itemOf z = some (a, b) → Same H H' → H' p = some (.tup [.str a, .str b]) → Q (.ref p) H'
theorem ok_item_of {f : Addr} {fd : FuncData} (F : Fun K "item_of" "item_of" s_item_of f fd) (T : WordTxt K mg ts kw) (c_is_name : Cal P w K mg base 2 "is_name" sp_is_name) : FnOk P w K mg base CX0 3 f fd P_item_of sp_item_of := by
  refine F.ok sc_item_of (fun vs H Q E h => ?_) (fun cdv A outer s H vs Q E hr h => ?_)
  · obtain ⟨z, rfl, _⟩ := h
    rfl
  · obtain ⟨z, rfl, hz, k0, k1⟩ := h
    refine ⟨_, (pss_cons (ps_set (i := 1) sc_item_of.nd rfl (Or.inl rfl) (pe_split (pv 0) pe_str))
      (pss_cons (ps_if (PW.pt (pw_or (pt_cmpR op_ne (pe_callB call_len_seq (by rfl) T.b_len (by decide +kernel) (pa_cons (pv 1) pa_nil)) pe_int (nomark _)) (pw_or1 (pt_not (pt_val (pe_cc c_is_name hr (by decide) rfl (pa_cons (pe_ix ix_list (pv 1) pe_int (fun _ _ => rfl)) pa_nil))))))) (pss_one (ps_ret pe_non)) pss_nil)
      (pss_cons (ps_if (PW.pt (pw_and (pt_cmpR op_ne (pe_ix ix_list (pv 1) pe_int (fun _ _ => rfl)) pe_str (nomark _)) (pw_and1 (pt_not (pt_val (pe_cc c_is_name hr (by decide) rfl (pa_cons (pe_ix ix_list (pv 1) pe_int (fun _ _ => rfl)) pa_nil))))))) (pss_one (ps_ret pe_non)) pss_nil)
      (pss_one (ps_ret (pe_tup (pa_cons (pe_ix ix_list (pv 1) pe_int (fun _ _ => rfl)) (pa_cons (pe_ix ix_list (pv 1) pe_int (fun _ _ => rfl)) pa_nil)))))))), ?_⟩
    show tSeq _ _ _ [some (V.str z), none] H
    walk_at "rd"
    refine ⟨by have : (100000 : Nat) ≤ sizeLine := by decide
               omega, fun p hp => ?_⟩
    generalize eH : upd H p _ = H1
    have s1 : Same H H1 := eH ▸ same_upd hp
    have e1 : H1 p = _ := eH ▸ upd_same
    clear eH
    have hle : ∀ y ∈ PySem.Txt.split z "=", y.length ≤ z.length := fun y hy => split_le (by decide +kernel) (by decide +kernel) hy
    unfold itemOf at k0 k1
    generalize PySem.Txt.split z "=" = ps at e1 hle k0 k1
    walk_at "rd"
    refine ⟨Or.inl (SqL.of e1), ?_⟩
    walk_at "rd"
    refine x_ND (fun h1 => ?_) (fun h1 => ?_)
    · walk_at "rd"
      refine k0 ?_ _ s1
      match ps, h1 with
      | [], _ => rfl
      | [_], _ => rfl
      | [_, _], h => exact absurd rfl h
      | _ :: _ :: _ :: _, _ => rfl
    have h2 : ps.length = 2 := by have := V.int.inj h1; rw [List.length_map] at this; omega
    obtain ⟨a, b, rfl⟩ : ∃ a b, ps = [a, b] := match ps, h2 with | [a, b], _ => ⟨a, b, rfl⟩
    have hla := Nat.le_trans (hle a (by simp)) hz
    have hlb := Nat.le_trans (hle b (by simp)) hz
    walk_at "rd"
    refine x_ixL (SqL.of e1) (atI_nat (j := 0) rfl) ?_
    walk_at "rd"
    refine ⟨a, rfl, hla, ?_⟩
    walk_at "rd"
    refine x_NB (fun h3 => ?_) (fun h3 => ?_)
    · walk_at "rd"
      refine k0 ?_ _ s1
      show (if isName a && _ then _ else _) = _
      rw [h3]
      rfl
    walk_at "rd"
    refine x_ixL (SqL.of e1) (atI_nat (j := 1) rfl) ?_
    walk_at "rd"
    refine x_ND (fun h4 => ?_) (fun h4 => ?_)
    · walk_at "rd"
      refine x_ixL (SqL.of e1) (atI_nat (j := 1) rfl) ?_
      walk_at "rd"
      refine ⟨b, rfl, hlb, ?_⟩
      walk_at "rd"
      refine x_NB (fun h5 => ?_) (fun h5 => ?_)
      · walk_at "rd"
        refine k0 ?_ _ s1
        show (if isName a && (decide (b = ("?" : Str)) || isName b) then _ else _) = _
        rw [h3, h5, decide_eq_false (fun e => h4 (by rw [e]))]
        rfl
      walk_at "rd"
      refine x_ixL (SqL.of e1) (atI_nat (j := 0) rfl) ?_
      walk_at "rd"
      refine x_ixL (SqL.of e1) (atI_nat (j := 1) rfl) ?_
      walk_at "rd"
      intro q nq
      refine k1 a b q _ ?_ (s1.trans (same_upd nq)) upd_same
      show (if isName a && (decide (b = ("?" : Str)) || isName b) then _ else _) = _
      rw [h3, h5]
      simp
    walk_at "rd"
    refine x_ixL (SqL.of e1) (atI_nat (j := 0) rfl) ?_
    walk_at "rd"
    refine x_ixL (SqL.of e1) (atI_nat (j := 1) rfl) ?_
    walk_at "rd"
    intro q nq
    refine k1 a b q _ ?_ (s1.trans (same_upd nq)) upd_same
    show (if isName a && (decide (b = ("?" : Str)) || isName b) then _ else _) = _
    rw [h3, decide_eq_true (V.str.inj h4)]
    rfl
end
end MP
end
section
namespace MP
open PySem PySem.Spec PyProof.Rows L2
/-! ### a dict and an empty one -/
def rNeD0 : R2 := fun x y H Q => ∃ a b ks, x = .ref a ∧ y = .ref b ∧ H a = some (.dK ks) ∧ H b = some (.dK []) ∧ Q (.bl (!ks.isEmpty)) H
theorem op_neD0 {X : Cx} (hu : X.A.units < cLine) : OpR X (compareOp .NotEq) rNeD0 := by
  intro pins s σ H x y v u Q I rx ry h
  obtain ⟨a, b, ks, rfl, rfl, ea, eb, q⟩ := h
  obtain rfl : v = Value.ref a := rx
  obtain rfl : u = Value.ref b := ry
  obtain ⟨_, ya, va, ra, da⟩ := (show ObjOk X.prog X.w H s.heap a (.dK ks) from I.hok a _ ea)
  obtain ⟨_, yb, vb, rb, db⟩ := (show ObjOk X.prog X.w H s.heap b (.dK []) from I.hok b _ eb)
  have hla : ks.length = va.length := ra.length
  have hlb : (0 : Nat) = vb.length := rb.length
  refine PySem.W.keq_ne (knd := mixKind X.prog X.w) (r := true) ya yb da db hu (fun hl => ?_) (fin_bl I q ?_)
  · rw [← hlb] at hl
    cases va with
    | nil => exact .nil
    | cons _ _ => cases hl
  · cases ks with
    | nil =>
      have e : va.length = 0 := by rw [← hla]; rfl
      rw [e, ← hlb]
      rfl
    | cons a r =>
      have e : va.length = r.length + 1 := by rw [← hla]; rfl
      rw [e, ← hlb]
      simp
theorem x_neD0 {a b : Addr} {ks : List (Key × V)} {H : Hp} {Q : VK} (ha : H a = some (.dK ks)) (hb : H b = some (.dK [])) (h : Q (.bl (!ks.isEmpty)) H) : rNeD0 (.ref a) (.ref b) H Q := ⟨a, b, ks, rfl, rfl, ha, hb, h⟩
/-! ### xs[a:b:c] of a list -/
def pickV {α : Type} (xs : List α) (lo hi st : Option Int) : List α := (sliceRange (sliceBounds lo hi st xs.length).1 (sliceBounds lo hi st xs.length).2.1 (sliceBounds lo hi st xs.length).2.2).filterMap (xs[·]?)
theorem vals_pick {xs : List V} {its : List Value} (r : Vals xs its) : ∀ ks : List Nat, Vals (ks.filterMap (xs[·]?)) (ks.filterMap (its[·]?))
  | [] => .nil
  | k :: ks => by
    have ih := vals_pick r ks
    have hl := r.length
    cases e : xs[k]? with
    | none =>
      have e2 : its[k]? = none := by
        rw [List.getElem?_eq_none_iff] at e ⊢
        omega
      rw [List.filterMap_cons_none e, List.filterMap_cons_none e2]
      exact ih
    | some x =>
      obtain ⟨u, hu, ru⟩ := r.get e
      rw [List.filterMap_cons_some e, List.filterMap_cons_some hu]
      exact .cons ru ih
def tSl3 (K : PySem.W.Frag) (te : TE) (tl th ts : TO) : TE := fun σ H Q => te σ H fun x H1 => tl σ H1 fun l H2 => th σ H2 fun u H3 => ts σ H3 fun o H4 => ∃ a xs, x = V.ref a ∧ SqL K H4 a xs ∧ o ≠ some 0 ∧ (pickV xs l u o).length ≤ sizeLine ∧ ∀ p, H4 p = none → Q (.ref p) (upd H4 p (.lst (pickV xs l u o)))
theorem pe_slice3 {X : Cx} {e st : Expr} {lo hi : Option Expr} {te : TE} {tl th ts : TO} {p2 pos : Pos} (he : PE X e te) (hl : PO X lo tl) (hh : PO X hi th) (hs : PO X (some st) ts)
    (htail : ∀ (v u : Value), subscripted (.Slice lo hi (some st) p2) false v u = operate [v, u] (getItem v u) := by intro _ _; rfl) : PE X (.Subscript e (.Slice lo hi (some st) p2) pos) (tSl3 X.K te tl th ts) := by
  refine ⟨fun pins s σ H Q I h => ?_⟩
  refine Subscript_ (thn (he.run pins s σ H _ I h) fun v s1 ⟨x, H1, I1, r1, q1⟩ => ?_)
  refine wpAny_Slice (thn (hl.run pins s1 σ H1 _ I1 q1) fun vl s2 ⟨l, H2, I2, pl, q2⟩ => thn (hh.run pins s2 σ H2 _ I2 q2) fun vu s3 ⟨u, H3, I3, pu, q3⟩ => thn (hs.run pins s3 σ H3 _ I3 q3) fun vs s4 ⟨o, H4, I4, ps, q4⟩ => ?_)
  obtain ⟨a, xs, ex, hx, h0, hz, q⟩ := q4
  subst ex
  cases r1
  have I5 : Inv X pins σ H4 { s4 with heap := s4.heap.push { cls := .type "slice", data := .fields #[vl, vu, vs] } } := I4.kept (t' := s4.toks) fun b ob q => Heap.get?_push_of_some _ q
  obtain ⟨its, r, ht, hz2⟩ := I5.list hx
  have hlen := r.length
  show wpAny (model X.prog X.w) X.A (subscriptTail e (.Slice lo hi (some st) p2) (.ref a) (.ref s4.heap.objs.size)) (EP X pins σ Q) X.xe { s4 with heap := s4.heap.push { cls := .type "slice", data := .fields #[vl, vu, vs] } }
  refine tail_any (ops := [.ref a, .ref s4.heap.objs.size]) ht.isList.typeIs (PySem.slot_list_getitem.lookup) ?_ (by with_unfolding_all rfl)
  refine wpAny_getItem_list_slice ht.isList (Heap.IsSliceOf.new _ vl vu vs) pl pu ps h0 ?_ (by rw [List.size_toArray]; omega)
  have e : slicePick its.toArray l u o = ((sliceRange (sliceBounds l u o xs.length).1 (sliceBounds l u o xs.length).2.1 (sliceBounds l u o xs.length).2.2).filterMap (its[·]?)).toArray := by
    unfold slicePick
    rw [List.size_toArray, ← hlen]
    simp
  rw [e]
  refine ⟨.ref _, _, I5.laid (t' := s4.toks) (o := .lst (pickV xs l u o)) (fun b ob q => Heap.get?_push_of_some _ q) (Nat.le_refl _) ?_, rfl, q _ (I5.hok.fresh (Nat.le_refl _))⟩
  exact ⟨hz, _, 0, vals_pick r _, Heap.get?_push_size _ rfl⟩
/-! ### enumerate(list, start=c) -/
theorem draws_stop {prog : Program} {w : World} {A : Around} (hh : A.handled = none) {it l : Addr} {i : Nat} {items : Array Value} (hx : items[i]? = none) :
    Draws prog w A it [it, l] i (fun _ _ => False) (fun j h => j = i ∧ h.IsListIter it l i ∧ h.IsList l items) where
  live := fun _ _ st => let ⟨o, ho, _⟩ := st.2.1; ⟨o, ho⟩
  frame := fun _ _ _ st hk => ⟨st.1, st.2.1.at fun o e => hk it (by simp) o e, st.2.2.at fun o e => hk l (by simp) o e⟩
  item := fun j s Q E hi st _ => absurd st.1 (Nat.ne_of_lt hi)
  done := fun s Q E st hE => wpAny_nextOf_list_end hh st.2.1 st.2.2 hx hE
def IteS (K : PySem.W.Frag) (a : Addr) (c : Int) : It :=
  ⟨fun i H => ∃ (xs : List V) (x : V), SqL K H a xs ∧ xs[i]? = some x, fun i H v H' => ∃ T x, v = .ref T ∧ H T = none ∧ H' = upd H T (.tup [.int ((i : Nat) + c), x]) ∧ ∀ xs, SqL K H a xs → xs[i]? = some x, fun i H => ∃ xs : List V, SqL K H a xs ∧ xs.length ≤ i⟩
theorem turn_enumS {P : Program} {w : World} {K : PySem.W.Frag} {elts : List Expr} {kk : Nat} {tpos : Pos} (a e it : Addr) (c : Int) :
    Turn P w K (.Tuple elts kk tpos) (IteS K a c) [e, it] e (fun i h => (∃ old, IsEnum h e it ((i : Nat) + c) old) ∧ h.IsListIter it a i ∧ e ≠ it) where
  mem := by simp
  obj := fun i h st b hb => by
    obtain ⟨⟨old, he⟩, ⟨o, ho, hc, hd⟩, _⟩ := st
    have e' : b = e ∨ b = it := by simpa using hb
    rcases e' with z | z
    · rw [z]; exact ⟨_, he, fun v q => nomatch q⟩
    · rw [z]; exact ⟨o, ho, fun v q => by rw [hd] at q; cases q⟩
  keep := fun i h h' st k => let ⟨⟨old, he⟩, hi, hne⟩ := st; ⟨⟨old, k e (by simp) _ he⟩, hi.at fun o q => k it (by simp) o q, hne⟩
  item := by
    intro X hP hw hK hc i pins s σ H E I hf st hg
    subst hP hw hK
    obtain ⟨⟨old, he⟩, hit, hne⟩ := st
    obtain ⟨xs, x, hq, hx⟩ := hg
    obtain ⟨its, rv, p, hz⟩ := I.list hq
    obtain ⟨u, hu, ru⟩ := rv.get hx
    have hel : e < s.heap.objs.size := Heap.lt_size he
    have hil : it < s.heap.objs.size := by obtain ⟨_, q, _⟩ := hit; exact Heap.lt_size q
    have hh : X.A.in1.handled = none := I.ok.hd hc
    have hal : a ≠ it := fun z => by
      obtain ⟨o1, q1, c1, d1⟩ := hit
      obtain ⟨o2, q2, c2, d2⟩ := p.isList
      rw [← z, q2] at q1
      cases q1
      rw [c2] at c1
      exact absurd c1 (by decide)
    have hea : e ∉ [it, a] := fun z => by
      rcases List.mem_cons.mp z with z | z
      · exact hne z
      · have z := List.mem_singleton.mp z
        obtain ⟨o2, q2, c2, d2⟩ := p.isList
        rw [← z, he] at q2
        cases q2
        have c3 : Value.type "enumerate" = Value.type "list" := c2
        exact absurd c3 (by decide)
    have hiz : i < its.toArray.size := by
      have := (List.getElem?_eq_some_iff.mp hu).1
      simpa using this
    refine wpAny_pyNext_enum_itemC (Draws.list hh it a hal its.toArray) he ⟨hit, p.isList⟩ hiz hne hea fun y h' tk hy ho hit' hT hsz hk => ?_
    have hyu : u = y := by
      have q : its.toArray[i]? = some y := hy
      rw [show its.toArray[i]? = its[i]? by simp, hu] at q
      exact Option.some.inj q
    subst hyu
    refine ⟨_, rfl, wpAny_letOwnedTupleGo_enum (s := { s with heap := h', toks := tk + 1 }) ho fun h'' he' sb => ?_⟩
    have hT2 : h''.get? s.heap.objs.size = some { cls := .type "tuple", data := .seq #[.int ((i : Nat) + c) tk, u] } := (sb.2 _ (Nat.ne_of_gt hel)).trans hT
    have new : ObjOk X.prog X.w (upd H s.heap.objs.size (.tup [.int ((i : Nat) + c), x])) h'' s.heap.objs.size (.tup [.int ((i : Nat) + c), x]) :=
      ⟨by show 2 ≤ sizeLine; decide, [.int ((i : Nat) + c) tk, u], .cons ⟨_, rfl⟩ (.cons ru .nil), ⟨_, hT2, rfl, _, rfl⟩⟩
    have I1 : Inv X pins σ (upd H s.heap.objs.size (.tup [.int ((i : Nat) + c), x])) { s with heap := h'', toks := tk + 1 } :=
      I.turnedNew (ch := [e, it]) (fun b ob hb q => (sb.2 b (fun z => hb (by simp [z]))).trans (hk b ob (fun z => hb (by simp [z])) (fun z => hb (by simp [z])) q)) hf (Nat.le_refl _) new
    refine ⟨.ref s.heap.objs.size, _, I1, rfl, ⟨_, x, rfl, I.hok.fresh (Nat.le_refl _), rfl, fun ys hy => by rw [I.list_inj hy hq]; exact hx⟩, ⟨⟨u, ?_⟩, hit'.1.at fun o q => (sb.2 it (Ne.symm hne)).trans q, hne⟩, fun b hb => ?_⟩
    · have e1 : ((i + 1 : Nat) : Int) + c = (i : Int) + c + 1 := by omega
      rw [e1]; exact he'
    · have hb' : b < s.heap.objs.size := by
        have e' : b = e ∨ b = it := by simpa using hb
        rcases e' with z | z
        · rw [z]; exact hel
        · rw [z]; exact hil
      rw [upd_ne (Nat.ne_of_lt hb')]
      exact (hf b hb).1
  done := by
    intro X hP hw hK hc i pins s σ H E I hf st hg
    subst hP hw hK
    obtain ⟨⟨old, he⟩, hit, hne⟩ := st
    obtain ⟨xs, hq, hx⟩ := hg
    obtain ⟨its, rv, p, hz⟩ := I.list hq
    obtain ⟨f0, f1, f2, f3, f4, f5⟩ := hf it (by simp)
    have hl := rv.length
    have hh : X.A.in1.handled = none := I.ok.hd hc
    have hie : its.toArray[i]? = none := by rw [Array.getElem?_eq_none_iff, List.size_toArray]; omega
    have D := draws_stop (prog := X.prog) (w := X.w) hh hie (it := it) (l := a)
    have st : i = i ∧ s.heap.IsListIter it a i ∧ s.heap.IsList a its.toArray := ⟨rfl, hit, p.isList⟩
    exact wpAny_pyNext_enum_endD D he st fun h' eb => ⟨rfl, I.turned (t' := s.toks) (fun b o hb q => eb b o hb q) f0 f1 f3 f4 f5⟩
  self := fun A i s Q E st h => let ⟨⟨_, he⟩, _⟩ := st; wpAny_pyIter_enum he h
section
variable {M : Model} {A : Around} {E : Value → Shared → Prop} {s : Shared} {env : Env}
theorem callWith_tyKw {pos : Pos} {T : String} {e : Expr} {rest : List Expr} {kws : List Keyword} {Q : Value → Shared → Prop}
    (h : wpAny M A (spliced (backTo pos (starEach (e :: rest) env))) (fun vs s₁ => wpAny M A (evalAll ((backToKw pos (keywordEach kws env)).map (·.2)))
      (fun kvs s₂ => wpAny M A (call (.type T) vs (((backToKw pos (keywordEach kws env)).filterMap (·.1)).zip kvs)) Q E s₂) E s₁) E s)
    (he : backTo pos (starEach (e :: rest) env) = (false, eval e env) :: backTo pos (starEach rest env) := by rfl)
    (hplain : (backTo pos (starEach (e :: rest) env)).any (·.1) = false := by rfl)
    (hall : (backToKw pos (keywordEach kws env)).all (·.1.isSome) = true := by rfl)
    (hkw : (backToKw pos (keywordEach kws env)).any (·.1.isNone) = false := by rfl) :
    wpAny M A (callWith pos (.type T) [] (backTo pos (starEach (e :: rest) env)) (backToKw pos (keywordEach kws env))) Q E s := by
  have ha : wpAny M A (evalArgs (.type T) true (backTo pos (starEach (e :: rest) env)) (backToKw pos (keywordEach kws env))) (fun a s₁ => wpAny M A (call (.type T) ([] ++ a.pos) a.kw) Q E s₁) E s := by
    rw [he] at h ⊢
    exact evalArgs_kwB hall h
  unfold callWith
  refine wpAny_bind (wpAny_holding (wpAny_mono ha (fun a s₁ h₁ => wpAny_bind (wpAny_standAt ?_)) fun _ _ x => x))
  simp only [hplain, hkw, Bool.or_false]
  refine wpAny_bind (wpAny_pure ?_)
  exact wpAny_bind (wpAny_mono h₁ (fun r s₂ hr => wpAny_bind (wpAny_holding (wpAny_point (wpAny_pure hr)))) fun _ _ x => x)
end
def iEnumS (K : PySem.W.Frag) (c : Int) (ta : TA) : TI := fun σ H R => ta σ H fun vs H1 => ∃ a xs, vs = [.ref a] ∧ SqL K H1 a xs ∧ R (IteS K a c) H1
theorem pi_enumS {X : Cx} {e : Expr} {ta : TA} {c : Int} {j : Nat} {p pos tpos kp cp : Pos} {elts : List Expr} {kk : Nat} (hg : Gl X "enumerate") (hm : X.mg "enumerate" = none) (ha : PA X [e] ta) (h0 : -(2 ^ 63) ≤ c) (h1 : c < 2 ^ 63) (hn : (0 : Int) ≤ c)
    (hs : backTo pos (starEach [e] X.env) = (false, eval e X.env) :: backTo pos (starEach [] X.env) := by rfl) (hp : (backTo pos (starEach [e] X.env)).any (·.1) = false := by rfl) :
    PI X (.Tuple elts kk tpos) (.Call (.Name "enumerate" p) [e] [⟨some "start", .Constant (.int c) j cp, kp⟩] pos) (iEnumS X.K c ta) := by
  refine ⟨fun pins s σ H R I h => ?_⟩
  show wpAny _ _ (eval (.Call (.Name "enumerate" p) [e] [⟨some "start", .Constant (.int c) j cp, kp⟩] pos) X.env) _ _ _
  refine wpAny_Call_Name_kw (ld_blt I hg hm boot_enumerate ?_)
  refine callWith_tyKw (thn (ha.run pos pins s σ H _ I h) fun us s1 ⟨vs, H1, I1, r1, q1⟩ => ?_) hs hp
  obtain ⟨a, xs, ex, hq, q⟩ := q1
  subst ex
  refine kws_cons (thn ((pe_int (X := X)).run pins s1 σ H1 (fun v H2 => v = .int c ∧ H2 = H1) I1 ⟨rfl, rfl⟩) fun v s2 ⟨x, H2, I2, rx, ex, e2⟩ => kws_nil ?_)
  subst ex e2
  obtain ⟨t, rfl⟩ := rx
  cases r1 with
  | cons r rr =>
    cases rr
    cases r
    obtain ⟨its, rv, p', hz⟩ := I2.list hq
    refine enum_begins_start (begins_list a its.toArray) p'.isList h0 h1 fun h' he hit hsz hk => wpAny_pyIter_enum he ?_
    have I3 : Inv X pins σ H2 { s2 with heap := h' } := I2.kept (t' := s2.toks) hk
    refine ⟨s2.heap.objs.size + 1, [s2.heap.objs.size + 1, s2.heap.objs.size], _, _, H2, rfl, I3, turn_enumS a (s2.heap.objs.size + 1) s2.heap.objs.size c, ⟨⟨.none, ?_⟩, ⟨_, hit, rfl, rfl⟩, Nat.succ_ne_self _⟩, fun b hb => ?_, q⟩
    · have e0 : ((0 : Nat) : Int) + c = c := by omega
      rw [e0]
      exact he
    have e' : b = s2.heap.objs.size + 1 ∨ b = s2.heap.objs.size := by simpa using hb
    have hle : s2.heap.objs.size ≤ b := by
      rcases e' with z | z
      · rw [z]; exact Nat.le_add_right _ _
      · rw [z]; exact Nat.le_refl _
    exact I2.fpOk hle (I2.hok.fresh hle)
theorem walk_enumS {K : PySem.W.Frag} {a : Addr} {xs : List V} {c : Int} : Walk (IteS K a c) xs.length (fun H => SqL K H a xs) (YPair (fun i => some (.int ((i : Nat) + c))) (fun i => xs[i]?)) := by
  refine ⟨fun i _ hi q => ⟨xs, xs[i], q, by simp [hi]⟩, fun _ q => ⟨xs, q, Nat.le_refl _⟩, fun i H v H' _ q y => ?_⟩
  obtain ⟨T, x, h1, h2, h3, h4⟩ := y
  exact ⟨T, .int ((i : Nat) + c), x, h1, h2, h3, rfl, h4 xs q⟩
end MP
end
section
namespace MP
open PySem L2
/-! ### tables: keys that are texts or numbers -/
def kS {α : Type} (f : α → V) (l : List (Str × α)) : List (Key × V) := l.map fun x => ((Sum.inr x.1 : Key), f x.2)
def kI {α : Type} (f : α → V) (l : List (Int × α)) : List (Key × V) := l.map fun x => ((Sum.inl x.1 : Key), f x.2)
def look {κ α : Type} [DecidableEq κ] : List (κ × α) → κ → Option α
  | [], _ => none
  | x :: r, k => if x.1 = k then some x.2 else look r k
theorem valV_kS {α : Type} (f : α → V) (k : Str) : ∀ l : List (Str × α), valV (kS f l) (Sum.inr k : Key) = (look l k).map f
  | [] => rfl
  | x :: r => by
    unfold look
    by_cases e : x.1 = k
    · rw [if_pos e]
      exact valV_pos (by show (_ : Key) = _; exact congrArg _ e)
    · rw [if_neg e, ← valV_kS f k r]
      exact valV_neg fun z => e (Sum.inr.inj z)
theorem valV_kI {α : Type} (f : α → V) (k : Int) : ∀ l : List (Int × α), valV (kI f l) (Sum.inl k : Key) = (look l k).map f
  | [] => rfl
  | x :: r => by
    unfold look
    by_cases e : x.1 = k
    · rw [if_pos e]
      exact valV_pos (by show (_ : Key) = _; exact congrArg _ e)
    · rw [if_neg e, ← valV_kI f k r]
      exact valV_neg fun z => e (Sum.inl.inj z)
theorem look_mem {κ α : Type} [DecidableEq κ] {k : κ} {v : α} : ∀ {l : List (κ × α)}, look l k = some v → (k, v) ∈ l
  | [], h => by cases h
  | x :: r, h => by
    unfold look at h
    by_cases e : x.1 = k
    · rw [if_pos e] at h
      have h := Option.some.inj h
      rw [← e, ← h]
      exact List.mem_cons_self
    · rw [if_neg e] at h
      exact List.mem_cons_of_mem _ (look_mem h)
/-- a value put at a key: in its place, or behind -/
def putL {κ α : Type} [DecidableEq κ] : List (κ × α) → κ → α → List (κ × α)
  | [], k, v => [(k, v)]
  | x :: r, k, v => if x.1 = k then (k, v) :: (if (look r k).isSome then putL r k v else r) else x :: putL r k v
theorem putL_new {κ α : Type} [DecidableEq κ] {k : κ} {v : α} : ∀ {l : List (κ × α)}, look l k = none → putL l k v = l ++ [(k, v)]
  | [], _ => rfl
  | x :: r, h => by
    unfold look at h
    by_cases e : x.1 = k
    · rw [if_pos e] at h; cases h
    · rw [if_neg e] at h
      unfold putL
      rw [if_neg e, putL_new h]
      rfl
section
variable {σ : L2.St} {H : Hp} {D : Ends} {Q : VK} {ta td ty tv : TE}
def rDIn (b : Bool) (x y : V) (H : Hp) (Q : VK) : Prop := ∃ a o, x = .ref a ∧ DGet H a y o ∧ Q (.bl (if b = true then o.isSome else !o.isSome)) H
theorem x_din (h : ty σ H fun y H1 => td σ H1 fun x H2 => rDIn true x y H2 Q) : tDIn ty td σ H Q := h
theorem x_dnin (h : ty σ H fun y H1 => td σ H1 fun x H2 => rDIn false x y H2 Q) : tDNotIn ty td σ H Q := h
theorem r_dinS {α : Type} {f : α → V} {l : List (Str × α)} {a : Addr} {k : Str} (e : H a = some (.dK (kS f l))) (h : Q (.bl (look l k).isSome) H) : rDIn true (.ref a) (.str k) H Q :=
  ⟨a, _, rfl, dget_s e (valV_kS f k l), by rw [if_pos rfl, Option.isSome_map]; exact h⟩
theorem r_dinI {α : Type} {f : α → V} {l : List (Int × α)} {a : Addr} {k : Int} (e : H a = some (.dK (kI f l))) (h : Q (.bl (look l k).isSome) H) : rDIn true (.ref a) (.int k) H Q :=
  ⟨a, _, rfl, dget_i e (valV_kI f k l), by rw [if_pos rfl, Option.isSome_map]; exact h⟩
theorem r_dninS {α : Type} {f : α → V} {l : List (Str × α)} {a : Addr} {k : Str} (e : H a = some (.dK (kS f l))) (h : Q (.bl (!(look l k).isSome)) H) : rDIn false (.ref a) (.str k) H Q :=
  ⟨a, _, rfl, dget_s e (valV_kS f k l), by rw [if_neg Bool.false_ne_true, Option.isSome_map]; exact h⟩
theorem r_dninI {α : Type} {f : α → V} {l : List (Int × α)} {a : Addr} {k : Int} (e : H a = some (.dK (kI f l))) (h : Q (.bl (!(look l k).isSome)) H) : rDIn false (.ref a) (.int k) H Q :=
  ⟨a, _, rfl, dget_i e (valV_kI f k l), by rw [if_neg Bool.false_ne_true, Option.isSome_map]; exact h⟩
def rDGet (x y : V) (H : Hp) (Q : VK) : Prop := ∃ a v, x = V.ref a ∧ DGet H a y (some v) ∧ Q v H
theorem x_dgetR (h : td σ H fun x H1 => ty σ H1 fun y H2 => rDGet x y H2 Q) : tDGet td ty σ H Q := h
theorem r_getS {α : Type} {f : α → V} {l : List (Str × α)} {a : Addr} {k : Str} {v : α} (e : H a = some (.dK (kS f l))) (hv : look l k = some v) (h : Q (f v) H) : rDGet (.ref a) (.str k) H Q :=
  ⟨a, f v, rfl, dget_s e (by rw [valV_kS, hv]; rfl), h⟩
theorem r_getI {α : Type} {f : α → V} {l : List (Int × α)} {a : Addr} {k : Int} {v : α} (e : H a = some (.dK (kI f l))) (hv : look l k = some v) (h : Q (f v) H) : rDGet (.ref a) (.int k) H Q :=
  ⟨a, f v, rfl, dget_i e (by rw [valV_kI, hv]; rfl), h⟩
def rDPut (x y v : V) (H : Hp) (R : Hp → Prop) : Prop := ∃ a H4, x = V.ref a ∧ DPut H a y v H4 ∧ R H4
theorem x_dputR (h : tv σ H fun v H1 => td σ H1 fun x H2 => ty σ H2 fun y H3 => rDPut x y v H3 fun H4 => D.nx σ H4) : sDPut td ty tv D σ H := h
theorem kS_len {α : Type} (f : α → V) (l : List (Str × α)) : (kS f l).length = l.length := List.length_map ..
theorem kI_len {α : Type} (f : α → V) (l : List (Int × α)) : (kI f l).length = l.length := List.length_map ..
theorem r_putS {α : Type} {f : α → V} {l : List (Str × α)} {a : Addr} {k : Str} {v : α} {R : Hp → Prop} (e : H a = some (.dK (kS f l))) (hn : look l k = none) (hl : l.length < 100000) (h : R (upd H a (.dK (kS f (l ++ [(k, v)]))))) : rDPut (.ref a) (.str k) (f v) H R :=
  ⟨a, _, rfl, dput_s e (by rw [kS_len]; exact hl) rfl, by rw [putK_new _ (by rw [valV_kS, hn]; rfl)]; unfold kS at h ⊢; rw [List.map_append] at h; exact h⟩
theorem r_putI {α : Type} {f : α → V} {l : List (Int × α)} {a : Addr} {k : Int} {v : α} {R : Hp → Prop} (e : H a = some (.dK (kI f l))) (hn : look l k = none) (hl : l.length < 100000) (h : R (upd H a (.dK (kI f (l ++ [(k, v)]))))) : rDPut (.ref a) (.int k) (f v) H R :=
  ⟨a, _, rfl, dput_i e (by rw [kI_len]; exact hl) rfl, by rw [putK_new _ (by rw [valV_kI, hn]; rfl)]; unfold kI at h ⊢; rw [List.map_append] at h; exact h⟩
/-- a value put at a key that is there -/
def setL {κ α : Type} [DecidableEq κ] (l : List (κ × α)) (k : κ) (v : α) : List (κ × α) := l.map fun x => if x.1 = k then (k, v) else x
theorem r_setI {α : Type} {f : α → V} {l : List (Int × α)} {a : Addr} {k : Int} {v : α} {R : Hp → Prop} (e : H a = some (.dK (kI f l))) (hn : (look l k).isSome = true) (hl : l.length < 100000) (h : R (upd H a (.dK (kI f (setL l k v))))) : rDPut (.ref a) (.int k) (f v) H R := by
  refine ⟨a, _, rfl, dput_i e (by rw [kI_len]; exact hl) rfl, ?_⟩
  have h1 : ((kI f l).any fun kv => decide (kv.1 = (Sum.inl k : Key))) = true := by rw [valV_any, valV_kI, Option.isSome_map]; exact hn
  have e2 : putK (kI f l) (Sum.inl k : Key) (f v) = kI f (setL l k v) := by
    unfold putK
    rw [if_pos h1]
    unfold kI setL
    rw [List.map_map, List.map_map]
    refine List.map_congr_left fun x _ => ?_
    show (if (Sum.inl x.1 : Key) = Sum.inl k then _ else _) = (((Sum.inl (if x.1 = k then (k, v) else x).1 : Key)), f (if x.1 = k then (k, v) else x).2)
    by_cases e : x.1 = k
    · rw [if_pos e, if_pos (by rw [e])]
      show ((Sum.inl x.1 : Key), f v) = (Sum.inl k, f v)
      rw [e]
    · rw [if_neg e, if_neg fun z => e (Sum.inl.inj z)]
  rw [e2]
  exact h
/-- a value put at a key, in its place or behind -/
def putG {κ α : Type} [DecidableEq κ] (l : List (κ × α)) (k : κ) (v : α) : List (κ × α) := if (look l k).isSome = true then setL l k v else l ++ [(k, v)]
theorem r_putGI {α : Type} {f : α → V} {l : List (Int × α)} {a : Addr} {k : Int} (v : α) {R : Hp → Prop} (e : H a = some (.dK (kI f l))) (hl : l.length < 100000) (h : R (upd H a (.dK (kI f (putG l k v))))) : rDPut (.ref a) (.int k) (f v) H R := by
  unfold putG at h
  by_cases hn : (look l k).isSome = true
  · rw [if_pos hn] at h
    exact r_setI e hn hl h
  · rw [if_neg hn] at h
    exact r_putI e (by simpa using hn) hl h
theorem r_setS {α : Type} {f : α → V} {l : List (Str × α)} {a : Addr} {k : Str} {v : α} {R : Hp → Prop} (e : H a = some (.dK (kS f l))) (hn : (look l k).isSome = true) (hl : l.length < 100000) (h : R (upd H a (.dK (kS f (setL l k v))))) : rDPut (.ref a) (.str k) (f v) H R := by
  refine ⟨a, _, rfl, dput_s e (by rw [kS_len]; exact hl) rfl, ?_⟩
  have h1 : ((kS f l).any fun kv => decide (kv.1 = (Sum.inr k : Key))) = true := by rw [valV_any, valV_kS, Option.isSome_map]; exact hn
  have e2 : putK (kS f l) (Sum.inr k : Key) (f v) = kS f (setL l k v) := by
    unfold putK
    rw [if_pos h1]
    unfold kS setL
    rw [List.map_map, List.map_map]
    refine List.map_congr_left fun x _ => ?_
    show (if (Sum.inr x.1 : Key) = Sum.inr k then _ else _) = (((Sum.inr (if x.1 = k then (k, v) else x).1 : Key)), f (if x.1 = k then (k, v) else x).2)
    by_cases e : x.1 = k
    · rw [if_pos e, if_pos (by rw [e])]
      show ((Sum.inr x.1 : Key), f v) = (Sum.inr k, f v)
      rw [e]
    · rw [if_neg e, if_neg fun z => e (Sum.inr.inj z)]
  rw [e2]
  exact h
theorem r_putGS {α : Type} {f : α → V} {l : List (Str × α)} {a : Addr} {k : Str} (v : α) {R : Hp → Prop} (e : H a = some (.dK (kS f l))) (hl : l.length < 100000) (h : R (upd H a (.dK (kS f (putG l k v))))) : rDPut (.ref a) (.str k) (f v) H R := by
  unfold putG at h
  by_cases hn : (look l k).isSome = true
  · rw [if_pos hn] at h
    exact r_setS e hn hl h
  · rw [if_neg hn] at h
    exact r_putS e (by simpa using hn) hl h
def rFld (K : PySem.W.Frag) (f : Str) (x : V) (H : Hp) (Q : VK) : Prop := ∃ a C dx fs v, x = V.ref a ∧ H a = some (.ins C dx fs) ∧ Cls K C ∧ NoAttr K C f ∧ fs.lookup f = some v ∧ Q v H
theorem x_fldS {K : PySem.W.Frag} {f : Str} (h : ta σ H fun x H1 => rFld K f x H1 Q) : tFld K ta f σ H Q := h
end
theorem pe_neg1 {X : Cx} {c : Int} {k : Nat} {p1 p2 : Pos} : PE X (.UnaryOp .USub (.Constant (.int c) k p1) p2) (tC (.int (-c))) := MPX.pe_imp (pe_un un_neg pe_int) fun σ H Q h => ⟨c, rfl, h⟩
/-! ### the reading's tables -/
structure RdM where
  modes : List (Str × Addr × List (Str × Int))
  begins : List (Str × Str)
  routines : List (Str × Int)
  kinds : List (Int × Str)
  owners : List (Int × Str)
  partners : List (Int × Int)
  ors : List (Int × Addr × List Int)
  calls : List (Int × Str)
  leaves : List (Int × Int)
  works : List (Int × Addr × List (Str × Str))
  ends : List (Str × Int)
  owner : Option Str
  blocks : List Int
def RdM.empty : RdM := ⟨[], [], [], [], [], [], [], [], [], [], [], none, []⟩
def ownV : Option Str → V
  | none => .non
  | some x => .str x
def tabs (R : RdM) : List HO := [.dK (kS (fun x => .ref x.1) R.modes), .dK (kS V.str R.begins), .dK (kS V.int R.routines), .dK (kI V.str R.kinds), .dK (kI V.str R.owners), .dK (kI V.int R.partners), .dK (kI (fun x => .ref x.1) R.ors), .dK (kI V.str R.calls), .dK (kI V.int R.leaves), .dK (kI (fun x => .ref x.1) R.works), .dK (kS V.int R.ends), .lst (R.blocks.map V.int)]
def rflds (ad : Nat → Addr) (o : Option Str) : List (Str × V) := [("modes", .ref (ad 0)), ("begins", .ref (ad 1)), ("routines", .ref (ad 2)), ("kinds", .ref (ad 3)), ("owners", .ref (ad 4)), ("partners", .ref (ad 5)), ("ors", .ref (ad 6)), ("calls", .ref (ad 7)), ("leaves", .ref (ad 8)), ("works", .ref (ad 9)), ("ends", .ref (ad 10)), ("owner", ownV o), ("blocks", .ref (ad 11))]
def rall : List Str := ["modes", "begins", "routines", "kinds", "owners", "partners", "ors", "calls", "leaves", "works", "ends", "owner", "blocks"]
structure NestOk (H : Hp) (ad : Nat → Addr) (R : RdM) : Prop where
  mo : ∀ x ∈ R.modes, H x.2.1 = some (.dK (kS V.int x.2.2)) ∧ ∀ i < 12, x.2.1 ≠ ad i
  os : ∀ x ∈ R.ors, H x.2.1 = some (.tup (x.2.2.map V.int)) ∧ ∀ i < 12, x.2.1 ≠ ad i
  wo : ∀ x ∈ R.works, H x.2.1 = some (.dK (kS V.str x.2.2)) ∧ ∀ i < 12, x.2.1 ≠ ad i
structure RdAt (C : Addr) (H : Hp) (p : Addr) (ad : Nat → Addr) (R : RdM) : Prop where
  ob : ∃ dx, H p = some (.ins C dx (rflds ad R.owner))
  tab : ∀ i, i < 12 → H (ad i) = (tabs R)[i]?
  inj : ∀ i j, i < 12 → j < 12 → ad i = ad j → i = j
  np : ∀ i, i < 12 → p ≠ ad i
  ne : NestOk H ad R
theorem NestOk.mono {H H' : Hp} {ad : Nat → Addr} {R : RdM} (n : NestOk H ad R) (k : ∀ b o, H b = some o → (∀ i < 12, b ≠ ad i) → H' b = some o) : NestOk H' ad R :=
  ⟨fun x hx => ⟨k _ _ (n.mo x hx).1 (n.mo x hx).2, (n.mo x hx).2⟩, fun x hx => ⟨k _ _ (n.os x hx).1 (n.os x hx).2, (n.os x hx).2⟩, fun x hx => ⟨k _ _ (n.wo x hx).1 (n.wo x hx).2, (n.wo x hx).2⟩⟩
theorem RdAt.same {C : Addr} {H H' : Hp} {p : Addr} {ad : Nat → Addr} {R : RdM} (r : RdAt C H p ad R) (s : Same H H') : RdAt C H' p ad R := by
  obtain ⟨⟨dx, ho⟩, ht, hi, hp, hn⟩ := r
  refine ⟨⟨dx, s _ _ ho⟩, fun i h => ?_, hi, hp, hn.mono fun b o e _ => s _ _ e⟩
  have e := ht i h
  cases q : (tabs R)[i]? with
  | none => exact absurd (List.getElem?_eq_none_iff.mp q) (by show ¬ 12 ≤ i; omega)
  | some o => rw [q] at e; exact s _ _ e
theorem RdAt.put {C : Addr} {H : Hp} {p : Addr} {ad : Nat → Addr} {R R' : RdM} {o : HO} (r : RdAt C H p ad R) (i : Nat) (hi : i < 12) (ht : tabs R' = (tabs R).set i o) (hw : R'.owner = R.owner) (hn : NestOk H ad R') : RdAt C (upd H (ad i) o) p ad R' := by
  obtain ⟨⟨dx, ho⟩, htb, hin, hp, _⟩ := r
  refine ⟨⟨dx, by rw [upd_ne (hp i hi), hw]; exact ho⟩, fun j hj => ?_, hin, hp, hn.mono fun b o e n => by rw [upd_ne (n i hi)]; exact e⟩
  rw [ht]
  by_cases e : i = j
  · subst e
    rw [upd_same, List.getElem?_set_self (by show i < 12; exact hi)]
  · rw [upd_ne fun z => e (hin j i hj hi z).symm, List.getElem?_set_ne e]
    exact htb j hj
section
variable {C : Addr} {H : Hp} {p : Addr} {ad : Nat → Addr} {R : RdM}
theorem RdAt.t0 (r : RdAt C H p ad R) : H (ad 0) = some (.dK (kS (fun x => .ref x.1) R.modes)) := r.tab 0 (by decide)
theorem RdAt.t1 (r : RdAt C H p ad R) : H (ad 1) = some (.dK (kS V.str R.begins)) := r.tab 1 (by decide)
theorem RdAt.t2 (r : RdAt C H p ad R) : H (ad 2) = some (.dK (kS V.int R.routines)) := r.tab 2 (by decide)
theorem RdAt.t3 (r : RdAt C H p ad R) : H (ad 3) = some (.dK (kI V.str R.kinds)) := r.tab 3 (by decide)
theorem RdAt.t4 (r : RdAt C H p ad R) : H (ad 4) = some (.dK (kI V.str R.owners)) := r.tab 4 (by decide)
theorem RdAt.t5 (r : RdAt C H p ad R) : H (ad 5) = some (.dK (kI V.int R.partners)) := r.tab 5 (by decide)
theorem RdAt.t6 (r : RdAt C H p ad R) : H (ad 6) = some (.dK (kI (fun x => .ref x.1) R.ors)) := r.tab 6 (by decide)
theorem RdAt.t7 (r : RdAt C H p ad R) : H (ad 7) = some (.dK (kI V.str R.calls)) := r.tab 7 (by decide)
theorem RdAt.t8 (r : RdAt C H p ad R) : H (ad 8) = some (.dK (kI V.int R.leaves)) := r.tab 8 (by decide)
theorem RdAt.t9 (r : RdAt C H p ad R) : H (ad 9) = some (.dK (kI (fun x => .ref x.1) R.works)) := r.tab 9 (by decide)
theorem RdAt.t10 (r : RdAt C H p ad R) : H (ad 10) = some (.dK (kS V.int R.ends)) := r.tab 10 (by decide)
theorem RdAt.t11 (r : RdAt C H p ad R) : H (ad 11) = some (.lst (R.blocks.map V.int)) := r.tab 11 (by decide)
theorem RdAt.own (r : RdAt C H p ad R) (o : Option Str) (dx : Addr) : RdAt C (upd H p (.ins C dx (rflds ad o))) p ad { R with owner := o } := by
  obtain ⟨⟨dx0, ho⟩, htb, hin, hp, hn⟩ := r
  refine ⟨⟨dx, upd_same⟩, fun j hj => by rw [upd_ne (Ne.symm (hp j hj))]; exact htb j hj, hin, hp, ⟨fun x hx => ⟨?_, (hn.mo x hx).2⟩, fun x hx => ⟨?_, (hn.os x hx).2⟩, fun x hx => ⟨?_, (hn.wo x hx).2⟩⟩⟩
  · have e := (hn.mo x hx).1
    rw [upd_ne (ne_of e ho fun z => by cases z)]
    exact e
  · have e := (hn.os x hx).1
    rw [upd_ne (ne_of e ho fun z => by cases z)]
    exact e
  · have e := (hn.wo x hx).1
    rw [upd_ne (ne_of e ho fun z => by cases z)]
    exact e
end
theorem kS_nil {α : Type} (f : α → V) (l : List (Str × α)) : (kS f l).isEmpty = l.isEmpty := List.isEmpty_map ..
/-- nothing but the reading's own changes -/
def Fro (p : Addr) (ad : Nat → Addr) (H H' : Hp) : Prop := ∀ b o, H b = some o → b ≠ p → (∀ i < 12, b ≠ ad i) → H' b = some o
theorem Fro.refl {p : Addr} {ad : Nat → Addr} {H : Hp} : Fro p ad H H := fun _ _ e _ _ => e
theorem Fro.trans {p : Addr} {ad : Nat → Addr} {H H1 H2 : Hp} (a : Fro p ad H H1) (b : Fro p ad H1 H2) : Fro p ad H H2 := fun c o e n m => b c o (a c o e n m) n m
theorem Fro.of {p : Addr} {ad : Nat → Addr} {H H1 : Hp} (s : Same H H1) : Fro p ad H H1 := fun c o e _ _ => s c o e
theorem Fro.put {p : Addr} {ad : Nat → Addr} {H : Hp} {i : Nat} {o : HO} (hi : i < 12) : Fro p ad H (upd H (ad i) o) := fun c u e _ m => by rw [upd_ne (m i hi)]; exact e
theorem Fro.own {p : Addr} {ad : Nat → Addr} {H : Hp} {o : HO} : Fro p ad H (upd H p o) := fun c u e n _ => by rw [upd_ne n]; exact e
structure RdTxt (K : PySem.W.Frag) (C : Addr) : Prop where
  cl : Cls K C
  na : ∀ f ∈ rall, NoAttr K C f
theorem r_rd {K : PySem.W.Frag} {C : Addr} {H : Hp} {p : Addr} {ad : Nat → Addr} {R : RdM} {f : Str} {v : V} {Q : VK} (r : RdAt C H p ad R) (T : RdTxt K C) (hm : f ∈ rall) (hl : (rflds ad R.owner).lookup f = some v) (h : Q v H) : rFld K f (.ref p) H Q := by
  obtain ⟨dx, e⟩ := r.ob
  exact ⟨p, C, dx, _, v, rfl, e, T.cl, T.na f hm, hl, h⟩
/-- tables of few entries -/
structure Sm (R : RdM) : Prop where
  s0 : R.modes.length < 1000
  s1 : R.begins.length < 1000
  s2 : R.routines.length < 1000
  s3 : R.kinds.length < 1000
  s4 : R.owners.length < 1000
  s5 : R.partners.length < 1000
  s6 : R.ors.length < 1000
  s7 : R.calls.length < 1000
  s8 : R.leaves.length < 1000
  s9 : R.works.length < 1000
  s10 : R.ends.length < 1000
  s11 : R.blocks.length < 1000
/-- the modes' own tables, and the alternatives, are few -/
structure Sm2 (R : RdM) : Prop where
  m : ∀ x ∈ R.modes, x.2.2.length < 1000
  o : ∀ x ∈ R.ors, x.2.2.length < 1000
theorem lt5 {n : Nat} (h : n < 1000) : n < 100000 := by omega
theorem lt6 {n : Nat} (h : n ≤ 1000) : n < 100000 := by omega
theorem putG_len {κ α : Type} [DecidableEq κ] (l : List (κ × α)) (k : κ) (v : α) : (putG l k v).length ≤ l.length + 1 := by
  unfold putG
  split
  · unfold setL
    rw [List.length_map]
    omega
  · rw [List.length_append]
    exact Nat.le_refl _
theorem mem_putG {κ α : Type} [DecidableEq κ] {l : List (κ × α)} {k : κ} {v : α} {x : κ × α} (h : x ∈ putG l k v) : x = (k, v) ∨ x ∈ l := by
  unfold putG at h
  split at h
  · obtain ⟨y, hy, e⟩ := List.mem_map.mp h
    by_cases z : y.1 = k
    · rw [if_pos z] at e
      exact .inl e.symm
    · rw [if_neg z] at e
      exact .inr (e ▸ hy)
  · rcases List.mem_append.mp h with h | h
    · exact .inr h
    · exact .inl (List.mem_singleton.mp h)
theorem RdAt.fresh {C : Addr} {H : Hp} {p : Addr} {ad : Nat → Addr} {R : RdM} (r : RdAt C H p ad R) {q : Addr} (n : H q = none) : ∀ i < 12, q ≠ ad i := fun i hi e => by
  have h := r.tab i hi
  rw [← e, n] at h
  exact absurd (List.getElem?_eq_none_iff.mp h.symm) (by show ¬ 12 ≤ i; omega)
theorem in12 {i : Nat} (h : i < 12) : i = 0 ∨ i = 1 ∨ i = 2 ∨ i = 3 ∨ i = 4 ∨ i = 5 ∨ i = 6 ∨ i = 7 ∨ i = 8 ∨ i = 9 ∨ i = 10 ∨ i = 11 := by omega
theorem RdAt.not_tup {C : Addr} {H : Hp} {p : Addr} {ad : Nat → Addr} {R : RdM} (r : RdAt C H p ad R) {q : Addr} {xs : List V} (h : H q = some (.tup xs)) : ∀ i < 12, q ≠ ad i := by
  intro i hi e
  subst e
  rcases in12 hi with rfl | rfl | rfl | rfl | rfl | rfl | rfl | rfl | rfl | rfl | rfl | rfl
  · rw [r.t0] at h; cases h
  · rw [r.t1] at h; cases h
  · rw [r.t2] at h; cases h
  · rw [r.t3] at h; cases h
  · rw [r.t4] at h; cases h
  · rw [r.t5] at h; cases h
  · rw [r.t6] at h; cases h
  · rw [r.t7] at h; cases h
  · rw [r.t8] at h; cases h
  · rw [r.t9] at h; cases h
  · rw [r.t10] at h; cases h
  · rw [r.t11] at h; cases h
theorem x_catA {K : PySem.W.Frag} {a b : Addr} {xs ys : List V} {H : Hp} {Q : VK} (h1 : SqT K H a xs) (h2 : H b = some (.tup ys)) (hne : ys ≠ []) (hl : xs.length + ys.length ≤ sizeLine) (h : ∀ q H', Same H H' → H' q = some (.tup (xs ++ ys)) → Q (.ref q) H') : rCatA K (.ref a) (.ref b) H Q :=
  ⟨a, b, xs, ys, rfl, rfl, h1, SqT.of h2, hl, fun e => h b H (Same.refl H) (by rw [e]; exact h2), fun _ e => absurd e hne, fun _ _ q n => h q _ (same_upd n) upd_same⟩
theorem find_at {α : Type} {f : α → Bool} {b : α} : ∀ {l : List α} {i : Nat}, (∀ j < i, ∀ x, l[j]? = some x → f x = false) → l[i]? = some b → f b = true → l.find? f = some b
  | [], i, _, h, _ => by simp at h
  | a :: r, 0, _, h, hb => by
    have e : a = b := by simpa using h
    rw [List.find?_cons, e, hb]
  | a :: r, i + 1, ha, h, hb => by
    have e := ha 0 (Nat.succ_pos i) a rfl
    rw [List.find?_cons, e]
    exact find_at (i := i) (fun j hj x hx => ha (j + 1) (by omega) x hx) (by simpa using h) hb
theorem any_none {α : Type} {f : α → Bool} {l : List α} (h : ∀ j < l.length, ∀ x, l[j]? = some x → f x = false) : l.any f = false := by
  rw [List.any_eq_false]
  intro x hx
  obtain ⟨j, hj, e⟩ := List.getElem_of_mem hx
  rw [h j hj x (by rw [← e]; simp)]
  decide
theorem x_irev {K : PySem.W.Frag} {te : TE} {σ : L2.St} {H : Hp} {R : It → Hp → Prop} (h : tCons te tNil σ H fun vs H1 => ∃ (a : Addr) (xs : List V), vs = [V.ref a] ∧ SqL K H1 a xs ∧ R (Itv K a xs.length) H1) : iRev K (tCons te tNil) σ H R := h
theorem cutV_from (xs : List V) (k : Nat) : cutV xs (some (k : Int)) none = xs.drop k := by
  unfold cutV
  rw [HT.sIx_nat, HT.sIx_none]
  by_cases h : k ≤ xs.length
  · rw [Nat.min_eq_left h]
    exact List.take_of_length_le (by rw [List.length_drop]; omega)
  · rw [Nat.min_eq_right (by omega), List.drop_of_length_le (Nat.le_refl _), List.drop_of_length_le (show xs.length ≤ k by omega)]
    simp
theorem drop_at {α : Type} {l : List α} {i : Nat} {x : α} (h : l[i]? = some x) : l.drop i = x :: l.drop (i + 1) := by
  obtain ⟨hi, e⟩ := List.getElem?_eq_some_iff.mp h
  rw [List.drop_eq_getElem_cons hi, e]
/-- every second item, from the first on -/
def ev {α : Type} : List α → List α
  | a :: _ :: r => a :: ev r
  | r => r
theorem ev_at {α : Type} : ∀ (r : List α) (i : Nat), (ev r)[i]? = r[2 * i]?
  | [], i => by simp [ev]
  | [a], 0 => rfl
  | [a], i + 1 => by
    show ([a] : List α)[i + 1]? = ([a] : List α)[2 * (i + 1)]?
    rw [List.getElem?_eq_none (by simp), List.getElem?_eq_none (by simp; omega)]
  | a :: b :: r, 0 => rfl
  | a :: b :: r, i + 1 => by
    show (ev r)[i]? = (a :: b :: r)[2 * (i + 1)]?
    rw [ev_at r i, show 2 * (i + 1) = (2 * i + 1) + 1 by omega, List.getElem?_cons_succ, List.getElem?_cons_succ]
theorem pick_of {α : Type} {xs : List α} {n : Nat} {lo hi st : Option Int} {ks : List Nat} (hl : xs.length = n) (hk : sliceRange (sliceBounds lo hi st n).1 (sliceBounds lo hi st n).2.1 (sliceBounds lo hi st n).2.2 = ks) : pickV xs lo hi st = ks.filterMap (xs[·]?) := by
  unfold pickV
  rw [hl, hk]
theorem pick_ev {α : Type} (w0 n : α) : ∀ r : List α, r.length ≤ 12 → r.length % 2 = 0 → pickV (w0 :: n :: r) (some 2) none (some 2) = ev r ∧ pickV (w0 :: n :: r) (some 3) none (some 2) = ev r.tail ∧ (ev r).length = r.length / 2 ∧ (ev r.tail).length = r.length / 2
  | [], _, _ => ⟨(pick_of (n := 2) (ks := []) rfl (by decide)).trans rfl, (pick_of (n := 2) (ks := []) rfl (by decide)).trans rfl, by simp [ev], by simp [ev]⟩
  | [_], _, h => by simp only [List.length_cons, List.length_nil] at h; omega
  | [_, _], _, _ => ⟨(pick_of (n := 4) (ks := [2]) rfl (by decide)).trans rfl, (pick_of (n := 4) (ks := [3]) rfl (by decide)).trans rfl, by simp [ev], by simp [ev]⟩
  | [_, _, _], _, h => by simp only [List.length_cons, List.length_nil] at h; omega
  | [_, _, _, _], _, _ => ⟨(pick_of (n := 6) (ks := [2, 4]) rfl (by decide)).trans rfl, (pick_of (n := 6) (ks := [3, 5]) rfl (by decide)).trans rfl, by simp [ev], by simp [ev]⟩
  | [_, _, _, _, _], _, h => by simp only [List.length_cons, List.length_nil] at h; omega
  | [_, _, _, _, _, _], _, _ => ⟨(pick_of (n := 8) (ks := [2, 4, 6]) rfl (by decide)).trans rfl, (pick_of (n := 8) (ks := [3, 5, 7]) rfl (by decide)).trans rfl, by simp [ev], by simp [ev]⟩
  | [_, _, _, _, _, _, _], _, h => by simp only [List.length_cons, List.length_nil] at h; omega
  | [_, _, _, _, _, _, _, _], _, _ => ⟨(pick_of (n := 10) (ks := [2, 4, 6, 8]) rfl (by decide)).trans rfl, (pick_of (n := 10) (ks := [3, 5, 7, 9]) rfl (by decide)).trans rfl, by simp [ev], by simp [ev]⟩
  | [_, _, _, _, _, _, _, _, _], _, h => by simp only [List.length_cons, List.length_nil] at h; omega
  | [_, _, _, _, _, _, _, _, _, _], _, _ => ⟨(pick_of (n := 12) (ks := [2, 4, 6, 8, 10]) rfl (by decide)).trans rfl, (pick_of (n := 12) (ks := [3, 5, 7, 9, 11]) rfl (by decide)).trans rfl, by simp [ev], by simp [ev]⟩
  | [_, _, _, _, _, _, _, _, _, _, _], _, h => by simp only [List.length_cons, List.length_nil] at h; omega
  | [_, _, _, _, _, _, _, _, _, _, _, _], _, _ => ⟨(pick_of (n := 14) (ks := [2, 4, 6, 8, 10, 12]) rfl (by decide)).trans rfl, (pick_of (n := 14) (ks := [3, 5, 7, 9, 11, 13]) rfl (by decide)).trans rfl, by simp [ev], by simp [ev]⟩
  | _ :: _ :: _ :: _ :: _ :: _ :: _ :: _ :: _ :: _ :: _ :: _ :: _ :: _, h, _ => by simp only [List.length_cons] at h; omega
theorem map_ev {α β : Type} (f : α → β) : ∀ r : List α, (ev r).map f = ev (r.map f)
  | [] => rfl
  | [_] => rfl
  | a :: b :: r => by
    show f a :: (ev r).map f = f a :: ev (r.map f)
    rw [map_ev f r]
theorem x_gtup2 {K : PySem.W.Frag} {T : Addr} {x y : V} {i j : Nat} {σ : L2.St} {H : Hp} {Q : L2.St → Hp → Prop} (h : H T = some (.tup [x, y])) (q : Q ((σ.set i (some x)).set j (some y)) H) : gTup K 2 (gCons (gName i) (gCons (gName j) gNil)) (.ref T) σ H Q :=
  ⟨T, [x, y], rfl, SqT.of h, rfl, x, [y], rfl, y, [], rfl, rfl, q⟩
def rSl3 (K : PySem.W.Frag) (x : V) (l u o : Option Int) (H4 : Hp) (Q : VK) : Prop := ∃ a xs, x = V.ref a ∧ SqL K H4 a xs ∧ o ≠ some 0 ∧ (pickV xs l u o).length ≤ sizeLine ∧ ∀ p, H4 p = none → Q (.ref p) (upd H4 p (.lst (pickV xs l u o)))
theorem x_sl3 {K : PySem.W.Frag} {te : TE} {tl th ts : TO} {σ : L2.St} {H : Hp} {Q : VK} (h : te σ H fun x H1 => tl σ H1 fun l H2 => th σ H2 fun u H3 => ts σ H3 fun o H4 => rSl3 K x l u o H4 Q) : tSl3 K te tl th ts σ H Q := h
theorem r_sl3 {K : PySem.W.Frag} {a : Addr} {xs : List V} {l u o : Option Int} {H : Hp} {Q : VK} (hs : SqL K H a xs) (ho : o ≠ some 0) {ys : List V} (hy : pickV xs l u o = ys) (hz : ys.length ≤ sizeLine) (h : ∀ H' p, Same H H' → H p = none → H' p = some (.lst ys) → Q (.ref p) H') : rSl3 K (.ref a) l u o H Q :=
  ⟨a, xs, rfl, hs, ho, by rw [hy]; exact hz, fun p n => by rw [hy]; exact h _ p (same_upd n) n upd_same⟩
theorem x_izip {K : PySem.W.Frag} {te te2 : TE} {σ : L2.St} {H : Hp} {R : It → Hp → Prop} (h : tCons te (tCons te2 tNil) σ H fun vs H1 => ∃ (a b : Addr) (xs ys : List V), vs = [V.ref a, V.ref b] ∧ SqL K H1 a xs ∧ SqL K H1 b ys ∧ R (Itz K a b) H1) : iZip K (tCons te (tCons te2 tNil)) σ H R := h
theorem at_last {α : Type} {xs : List α} {v : α} (h : xs.getLast? = some v) : atI xs (-1) = some v := by
  obtain ⟨ys, rfl⟩ := List.getLast?_eq_some_iff.mp h
  exact atI_last ys v
/-- what a def of the reading answers -/
def RdPost (C p : Addr) (ad : Nat → Addr) (H : Hp) (b : Bool) (f : Addr → RdM) (Q : VK) : Prop := (b = false → ∀ H', Fro p ad H H' → Q (.bl false) H') ∧ (b = true → ∀ q H', Fro p ad H H' → RdAt C H' p ad (f q) → Q (.bl true) H')
/-! the mirrors -/
def okStart (R : RdM) : List Str → Bool
  | [_, m, v] => R.routines.isEmpty && (look R.modes m).isSome && !(look R.begins m).isSome && (match look R.modes m with | some x => (look x.2 v).isSome | none => false)
  | _ => false
def stStart (R : RdM) : List Str → RdM
  | [_, m, v] => { R with begins := putG R.begins m v }
  | _ => R
def okProc (nm : Str → Bool) (R : RdM) : List Str → Bool
  | [_, n] => R.owner.isNone && nm n && !(look R.routines n).isSome && !decide (R.routines.length = 6)
  | _ => false
def stProc (R : RdM) (line : Int) : List Str → RdM
  | [_, n] => { R with routines := putG R.routines n line, owner := some n }
  | _ => R
theorem own_non {o : Option Str} : ownV o = .non ↔ o = none := by cases o <;> simp [ownV]
def stEnd (R : RdM) (line : Int) : RdM := match R.blocks.getLast? with
  | none => match R.owner with
    | some o => { R with ends := putG R.ends o line, owner := none }
    | none => R
  | some first => { R with blocks := R.blocks.dropLast, partners := putG (putG R.partners first line) line first }
def okOr (R : RdM) : Bool := match R.blocks.getLast? with
  | none => false
  | some first => match look R.kinds first with
    | some k => decide (k = ("either" : Str))
    | none => false
def stOr (R : RdM) (line : Int) (q : Addr) : RdM := match R.blocks.getLast? with
  | none => R
  | some first => match look R.ors first with
    | some x => { R with partners := putG R.partners line first, ors := putG R.ors first (q, x.2 ++ [line]) }
    | none => R
def isEver (R : RdM) (b : Int) : Bool := decide (look R.kinds b = some ("ever" : Str))
def okLeave (R : RdM) : Bool := R.blocks.reverse.any (isEver R)
def stLeave (R : RdM) (line : Int) : RdM := match R.blocks.reverse.find? (isEver R) with
  | some first => { R with leaves := putG R.leaves line first }
  | none => R
def okBlock (R : RdM) : Bool := !decide (R.blocks.length = 8)
def stBlock (R : RdM) (kind : Str) (line : Int) (q : Addr) : RdM := if kind = ("either" : Str) then { R with blocks := R.blocks ++ [line], ors := putG R.ors line (q, []) } else { R with blocks := R.blocks ++ [line] }
/-- the open blocks are told in the tables -/
def BlkT (R : RdM) : Prop := ∀ b ∈ R.blocks, ∃ k, look R.kinds b = some k ∧ (k = ("either" : Str) → (look R.ors b).isSome = true)
/-! the mirrors of do lines and mode lines; it: an item of a word; nm: is it a name; pr: is it a price, and which -/
def doItems (it : Str → Option (Str × Str)) (R : RdM) : List Str → List (Str × Str) → Option (List (Str × Str))
  | [], acc => some acc
  | x :: r, acc => match it x with
    | none => none
    | some (m, v) => match look R.modes m with
      | none => none
      | some d => if (look acc m).isSome = true then none else if (!decide (v = ("?" : Str)) && !(look d.2 v).isSome) = true then none else doItems it R r (putG acc m v)
def okDo (nm : Str → Bool) (it : Str → Option (Str × Str)) (R : RdM) : List Str → Bool
  | _ :: n :: r => decide (r.length ≤ 6) && nm n && (doItems it R r []).isSome
  | _ => false
def stDo (it : Str → Option (Str × Str)) (R : RdM) (line : Int) (q : Addr) : List Str → RdM
  | _ :: _ :: r => match doItems it R r [] with
    | some its => { R with works := putG R.works line (q, its) }
    | none => R
  | _ => R
def modeItems (nm pr : Str → Bool) (val : Str → Int) : List Str → List (Str × Int) → Option (List (Str × Int))
  | v :: p :: r, acc => if nm v && !(look acc v).isSome && pr p then modeItems nm pr val r (putG acc v (val p)) else none
  | _, acc => some acc
def okMode (nm pr : Str → Bool) (val : Str → Int) (R : RdM) : List Str → Bool
  | _ :: n :: r => decide (2 ≤ r.length) && decide (r.length % 2 = 0) && decide (r.length ≤ 12) && R.routines.isEmpty && nm n && !(look R.modes n).isSome && !decide (R.modes.length = 6) && (modeItems nm pr val r []).isSome
  | _ => false
def stMode (nm pr : Str → Bool) (val : Str → Int) (R : RdM) (q : Addr) : List Str → RdM
  | _ :: n :: r => match modeItems nm pr val r [] with
    | some vs => { R with modes := putG R.modes n (q, vs) }
    | none => R
  | _ => R
def okCall (nm : Str → Bool) : List Str → Bool
  | [n] => nm n && !decide (n = ("main" : Str))
  | _ => false
def stCall (R : RdM) (line : Int) : List Str → RdM
  | [n] => { R with calls := putG R.calls line n }
  | _ => R
def okIns (nm : Str → Bool) (it : Str → Option (Str × Str)) (R : RdM) : List Str → Bool
  | [] => false
  | k :: r => if k = ("do" : Str) then okDo nm it R (k :: r) else if k = ("call" : Str) then okCall nm r else if ¬ r = [] then false else
    if k = ("end" : Str) then true else if k = ("or" : Str) then okOr R else if k = ("leave" : Str) then okLeave R else if k ∈ (["either", "loop", "ever"] : List Str) then okBlock R else decide (k ∈ (["back", "stop"] : List Str))
def stIns (it : Str → Option (Str × Str)) (R : RdM) (line : Int) (q : Addr) : List Str → RdM
  | [] => R
  | k :: r => if k = ("do" : Str) then stDo it R line q (k :: r) else if k = ("call" : Str) then stCall R line r else
    if k = ("end" : Str) then stEnd R line else if k = ("or" : Str) then stOr R line q else if k = ("leave" : Str) then stLeave R line else if k ∈ (["either", "loop", "ever"] : List Str) then stBlock R k line q else R
/-- the reading when a line begins: its kind is noted -/
def noteK (R : RdM) (line : Int) (k : Str) : RdM := { R with kinds := putG R.kinds line k }
def okLine (nm pr : Str → Bool) (val : Str → Int) (it : Str → Option (Str × Str)) (R : RdM) (line : Int) : List Str → Bool
  | [] => false
  | k :: r => if k = ("mode" : Str) then okMode nm pr val (noteK R line k) (k :: r) else if k = ("start" : Str) then okStart (noteK R line k) (k :: r) else if k = ("proc" : Str) then okProc nm (noteK R line k) (k :: r) else
    match R.owner with
    | none => false
    | some o => okIns nm it { noteK R line k with owners := putG R.owners line o } (k :: r)
def stLine (nm pr : Str → Bool) (val : Str → Int) (it : Str → Option (Str × Str)) (R : RdM) (line : Int) (q : Addr) : List Str → RdM
  | [] => R
  | k :: r => if k = ("mode" : Str) then stMode nm pr val (noteK R line k) q (k :: r) else if k = ("start" : Str) then stStart (noteK R line k) (k :: r) else if k = ("proc" : Str) then stProc (noteK R line k) line (k :: r) else
    match R.owner with
    | none => R
    | some o => stIns it { noteK R line k with owners := putG R.owners line o } line q (k :: r)
theorem RdPost.of {C p : Addr} {ad : Nat → Addr} {H H1 : Hp} {b b' : Bool} {f f' : Addr → RdM} {Q : VK} (h : RdPost C p ad H b f Q) (fr : Fro p ad H H1) (e1 : b = b') (e2 : ∀ q, f q = f' q) : RdPost C p ad H1 b' f' Q :=
  ⟨fun z H' g => h.1 (e1.trans z) H' (fr.trans g), fun z q H' g rr => h.2 (e1.trans z) q H' (fr.trans g) (by rw [e2]; exact rr)⟩
theorem look_append {κ α : Type} [DecidableEq κ] {k : κ} {v : α} : ∀ (l : List (κ × α)) (j : κ), look l k = none → look (l ++ [(k, v)]) j = if k = j then some v else look l j
  | [], j, _ => rfl
  | x :: r, j, h => by
    unfold look at h
    by_cases e : x.1 = k
    · rw [if_pos e] at h; cases h
    · rw [if_neg e] at h
      show (if x.1 = j then some x.2 else look (r ++ [(k, v)]) j) = _
      rw [look_append r j h]
      show _ = if k = j then some v else if x.1 = j then some x.2 else look r j
      by_cases e1 : x.1 = j
      · rw [if_pos e1, if_pos e1, if_neg fun z => e (e1.trans z.symm)]
      · rw [if_neg e1, if_neg e1]
theorem look_setL {κ α : Type} [DecidableEq κ] {k : κ} {v : α} : ∀ (l : List (κ × α)) (j : κ), (look l k).isSome = true → look (setL l k v) j = if k = j then some v else look l j
  | [], j, h => by cases h
  | x :: r, j, h => by
    unfold look at h
    show look ((if x.1 = k then (k, v) else x) :: setL r k v) j = if k = j then some v else if x.1 = j then some x.2 else look r j
    by_cases e : x.1 = k
    · rw [if_pos e]
      show (if k = j then some v else look (setL r k v) j) = _
      by_cases e1 : k = j
      · rw [if_pos e1, if_pos e1]
      · rw [if_neg e1, if_neg e1, if_neg fun z => e1 (e.symm.trans z)]
        by_cases e2 : (look r k).isSome = true
        · rw [look_setL r j e2, if_neg e1]
        · have e3 : look r k = none := by simpa using e2
          have e4 : setL r k v = r := by
            unfold setL
            rw [show r = r.map id from (List.map_id r).symm]
            rw [List.map_map]
            refine List.map_congr_left fun y hy => ?_
            show (if y.1 = k then (k, v) else y) = y
            refine if_neg fun z => ?_
            have : ∀ {l : List (κ × α)}, y ∈ l → look l k = none → False := by
              intro l
              induction l with
              | nil => intro h; cases h
              | cons a t ih =>
                intro h1 h2
                unfold look at h2
                by_cases ea : a.1 = k
                · rw [if_pos ea] at h2; cases h2
                · rw [if_neg ea] at h2
                  rcases List.mem_cons.mp h1 with e | h1
                  · exact ea (e ▸ z)
                  · exact ih h1 h2
            exact this hy e3
          rw [e4]
    · rw [if_neg e] at h ⊢
      show (if x.1 = j then some x.2 else look (setL r k v) j) = _
      rw [look_setL r j h]
      by_cases e1 : x.1 = j
      · rw [if_pos e1, if_pos e1, if_neg fun z => e (e1.trans z.symm)]
      · rw [if_neg e1, if_neg e1]
theorem look_putG {κ α : Type} [DecidableEq κ] (l : List (κ × α)) (k : κ) (v : α) (j : κ) : look (putG l k v) j = if k = j then some v else look l j := by
  unfold putG
  by_cases e : (look l k).isSome = true
  · rw [if_pos e]
    exact look_setL l j e
  · rw [if_neg e]
    exact look_append l j (by simpa using e)
/-! ### the tables are made one by one -/
structure IniAt (H0 : Hp) (C dx x : Addr) (H : Hp) (fs : List (Str × V)) (l : List (Addr × HO)) : Prop where
  ob : H x = some (.ins C dx fs)
  ta : ∀ e ∈ l, H e.1 = some e.2
  nd : (l.map (·.1)).Nodup
  nx : ∀ e ∈ l, e.1 ≠ x
  nw : ∀ e ∈ l, H0 e.1 = none
  fr : ∀ b o, H0 b = some o → b ≠ x → H b = some o
theorem IniAt.alloc {H0 : Hp} {C dx x : Addr} {H : Hp} {fs : List (Str × V)} {l : List (Addr × HO)} (i : IniAt H0 C dx x H fs l) {p : Addr} (o : HO) (n : H p = none) : IniAt H0 C dx x (upd H p o) fs (l ++ [(p, o)]) := by
  have hpx : p ≠ x := fun z => by rw [z, i.ob] at n; cases n
  refine ⟨by rw [upd_ne (Ne.symm hpx)]; exact i.ob, fun e he => ?_, ?_, fun e he => ?_, fun e he => ?_, fun b u e nb => ?_⟩
  · rcases List.mem_append.mp he with he | he
    · exact upd_new (i.ta e he) n
    · rw [List.mem_singleton.mp he]
      exact upd_same
  · rw [List.map_append, List.nodup_append]
    refine ⟨i.nd, by simp, fun a ha b hb e => ?_⟩
    have hb : b = p := by simpa using hb
    obtain ⟨y, hy, rfl⟩ := List.mem_map.mp ha
    have := i.ta y hy
    rw [e, hb, n] at this
    cases this
  · rcases List.mem_append.mp he with he | he
    · exact i.nx e he
    · rw [List.mem_singleton.mp he]
      exact hpx
  · rcases List.mem_append.mp he with he | he
    · exact i.nw e he
    · rw [List.mem_singleton.mp he]
      cases q : H0 p with
      | none => rfl
      | some o => rw [i.fr p o q hpx] at n; cases n
  · exact upd_new (i.fr b u e nb) n
theorem IniAt.set {H0 : Hp} {C dx x : Addr} {H : Hp} {fs : List (Str × V)} {l : List (Addr × HO)} (i : IniAt H0 C dx x H fs l) (gs : List (Str × V)) : IniAt H0 C dx x (upd H x (.ins C dx gs)) gs l :=
  ⟨upd_same, fun e he => by rw [upd_ne (i.nx e he)]; exact i.ta e he, i.nd, i.nx, i.nw, fun b o e n => by rw [upd_ne n]; exact i.fr b o e n⟩
theorem IniAt.rd {H0 : Hp} {C dx x : Addr} {H : Hp} {fs : List (Str × V)} {l : List (Addr × HO)} (i : IniAt H0 C dx x H fs l) (hl : l.length = 12) (ad : Nat → Addr) (ha : ∀ j, j < 12 → ∃ o, l[j]? = some (ad j, o) ∧ (tabs RdM.empty)[j]? = some o) (hf : fs = rflds ad none) : RdAt C H x ad RdM.empty ∧ ∀ j, j < 12 → H0 (ad j) = none := by
  have mem : ∀ j, j < 12 → ∃ o, (ad j, o) ∈ l ∧ (tabs RdM.empty)[j]? = some o := fun j hj => by
    obtain ⟨o, h1, h2⟩ := ha j hj
    exact ⟨o, List.mem_of_getElem? h1, h2⟩
  refine ⟨⟨⟨dx, by rw [i.ob, hf]; rfl⟩, fun j hj => ?_, fun a b hA hB e => ?_, fun j hj => ?_, ⟨fun y hy => (by cases hy), fun y hy => (by cases hy), fun y hy => (by cases hy)⟩⟩, fun j hj => ?_⟩
  · obtain ⟨o, h1, h2⟩ := mem j hj
    rw [h2]
    exact i.ta _ h1
  · obtain ⟨o1, h1, _⟩ := ha a hA
    obtain ⟨o2, h2, _⟩ := ha b hB
    have e1 : (l.map (·.1))[a]? = some (ad a) := by rw [List.getElem?_map, h1]; rfl
    have e2 : (l.map (·.1))[b]? = some (ad a) := by rw [List.getElem?_map, h2, e]; rfl
    have la : a < (l.map (·.1)).length := (List.getElem?_eq_some_iff.mp e1).1
    have lb : b < (l.map (·.1)).length := (List.getElem?_eq_some_iff.mp e2).1
    have g1 := (List.getElem?_eq_some_iff.mp e1).2
    have g2 := (List.getElem?_eq_some_iff.mp e2).2
    have pw := List.pairwise_iff_getElem.mp i.nd
    rcases Nat.lt_trichotomy a b with q | q | q
    · exact absurd (g1.trans g2.symm) (pw a b la lb q)
    · exact q
    · exact absurd (g2.trans g1.symm) (pw b a lb la q)
  · obtain ⟨o, h1, _⟩ := mem j hj
    exact (i.nx _ h1).symm
  · obtain ⟨o, h1, _⟩ := mem j hj
    exact i.nw _ h1
end MP
end
section
open PySem L2 MPX MP
local macro_rules | `(tactic| walk_at "rd1") => `(tactic| first
  | with_reducible refine x_seq ?_
  | with_reducible refine x_next ?_
  | with_reducible refine x_ret ?_
  | with_reducible refine x_retN ?_
  | with_reducible refine x_ifs ?_
  | with_reducible refine x_asg ?_
  | with_reducible refine x_drop ?_
  | with_reducible refine x_name ?_
  | ((with_reducible refine' x_var ?vv ?_); (case vv => exact rfl))
  | with_reducible refine x_c ?_
  | with_reducible refine x_op ?_
  | with_reducible refine x_un ?_
  | with_reducible refine x_test ?_
  | with_reducible refine x_tB ?_
  | with_reducible refine x_and ?_
  | with_reducible refine x_or ?_
  | with_reducible refine x_not ?_
  | with_reducible refine x_andV ?_
  | with_reducible refine x_orV ?_
  | with_reducible refine x_notV ?_
  | with_reducible refine x_if ?_
  | with_reducible refine x_nil ?_
  | with_reducible refine x_cons ?_
  | with_reducible refine x_tup ?_
  | with_reducible refine x_lst ?_
  | with_reducible refine x_cb ?_
  | with_reducible refine x_call ?_
  | with_reducible refine x_callS ?_
  | with_reducible refine x_callP ?_
  | with_reducible refine x_mk0 ?_
  | with_reducible refine x_mk1 ?_
  | with_reducible refine x_mk2 ?_
  | with_reducible refine x_make ?_
  | with_reducible refine x_sfld ?_
  | with_reducible refine x_din ?_
  | with_reducible refine x_dnin ?_
  | with_reducible refine x_fldS ?_
  | with_reducible refine x_sl3 ?_
  | ((with_reducible refine' r_rd ?vr ?vt ?vm ?vl ?vq); (case vr => (with_reducible assumption)); (case vt => assumption); (case vm => decide +kernel); (case vl => exact rfl))
  | with_reducible refine x_m0 ?_
  | with_reducible refine x_m1 ?_
  | with_reducible refine x_bm0 ?_
  | with_reducible refine x_bm ?_
  | with_reducible refine x_par ?_
  | with_reducible refine x_ilist ?_
  | with_reducible refine x_itup ?_
  | with_reducible refine x_istr ?_
  | ((with_reducible show tLc _ _ _ _ _ _ _ _); unfold tLc)
  | ((with_reducible show tFor _ _ _ _ _ _); unfold tFor)
  | ((with_reducible refine' x_eq ?vv ?_); (case vv => exact rfl))
  | ((with_reducible refine' x_ne ?vv ?_); (case vv => exact rfl))
  | with_reducible refine x_rI0 ?_
  | with_reducible refine x_dgetR ?_
  | with_reducible refine x_dputR ?_
  | with_reducible refine x_dnew ?_
  | with_reducible refine x_dget1 ?_
  | with_reducible refine x_dget2 ?_
  | with_reducible refine x_sl ?_
  | with_reducible refine x_nopart ?_
  | with_reducible refine x_part ?_
  | ((with_reducible refine' x_slL ?vv ?_); (case vv => (with_reducible assumption)))
  | with_reducible refine x_disp ?_
  | with_reducible refine x_pcons ?_
  | with_reducible refine x_pnil ?_
  | ((with_reducible refine' x_mod ?vv ?_); (case vv => omega); intro r er hr0 hr1; (try clear er))
  | ((with_reducible refine' x_rI ?vv ?_); (case vv => walk_at "sc"))
  | (with_reducible refine Or.inl (Exists.intro _ (And.intro rfl ?_)))
  | with_reducible refine x_T ?_
  | with_reducible refine x_F ?_
  | ((with_reducible show Exists (α := V) _); (with_reducible apply Exists.intro))
  | ((with_reducible show Exists (α := Bool) _); (with_reducible apply Exists.intro))
  | ((with_reducible show Exists (α := Nat) _); (with_reducible apply Exists.intro))
  | ((with_reducible show Exists (α := Int) _); (with_reducible apply Exists.intro))
  | ((with_reducible show Exists (α := List V) _); (with_reducible apply Exists.intro))
  | ((with_reducible show Exists (α := PySem.Str) _); (with_reducible apply Exists.intro))
  | ((with_reducible show Exists (α := Option V) _); (with_reducible apply Exists.intro))
  | ((with_reducible show Exists (α := Option Int) _); (with_reducible apply Exists.intro))
  | ((with_reducible show Exists (α := List (Key × V)) _); (with_reducible apply Exists.intro))
  | refine And.intro rfl ?_
  | ((with_reducible refine And.intro ?vv ?_); (case vv => (first | (with_reducible assumption) | (show _ ≤ sizeLine; decide) | exact len_ok rfl)))
  | (refine And.intro (Exists.intro _ rfl) ?_))
local macro_rules | `(tactic| walk_at "sc") => `(tactic| first
  | (with_reducible assumption)
  | exact divW (by omega) (by omega)
  | exact mulW (by omega) (by omega)
  | exact Or.inl ⟨by omega, by omega⟩
  | exact Or.inr ⟨by omega, by omega⟩
  | (show (_ : Int) ≠ 0; omega)
  | exact ⟨by decide, by decide, by decide⟩
  | decide)
local macro_rules | `(tactic| walk_at "rd") => `(tactic| repeat walk_at "rd1")
namespace MP
open PySem L2
section
variable {P : Program} {w : World} {K : PySem.W.Frag} {mg : Str → Option Value} {base : Heap} {ts : Nat → Tok} {kw C : Addr}
abbrev s_read_start : Stmt := topS 30
abbrev N_read_start : List Str := ["reading", "words"]
abbrev P_read_start : List Str := ["reading", "words"]
theorem sc_read_start : FnScope N_read_start P_read_start (defScope s_read_start) := ⟨rfl, rfl, rfl, by decide +kernel, rfl, by decide +kernel, by decide +kernel⟩
abbrev s_read_proc : Stmt := topS 31
abbrev N_read_proc : List Str := ["reading", "words", "line"]
abbrev P_read_proc : List Str := ["reading", "words", "line"]
theorem sc_read_proc : FnScope N_read_proc P_read_proc (defScope s_read_proc) := ⟨rfl, rfl, rfl, by decide +kernel, rfl, by decide +kernel, by decide +kernel⟩
abbrev s_read_end : Stmt := topS 33
abbrev N_read_end : List Str := ["reading", "line", "first"]
abbrev P_read_end : List Str := ["reading", "line"]
theorem sc_read_end : FnScope N_read_end P_read_end (defScope s_read_end) := ⟨rfl, rfl, rfl, by decide +kernel, rfl, by decide +kernel, by decide +kernel⟩
abbrev s_read_or : Stmt := topS 34
abbrev N_read_or : List Str := ["reading", "line", "first"]
abbrev P_read_or : List Str := ["reading", "line"]
theorem sc_read_or : FnScope N_read_or P_read_or (defScope s_read_or) := ⟨rfl, rfl, rfl, by decide +kernel, rfl, by decide +kernel, by decide +kernel⟩
abbrev s_read_leave : Stmt := topS 35
abbrev N_read_leave : List Str := ["reading", "line", "first"]
abbrev P_read_leave : List Str := ["reading", "line"]
theorem sc_read_leave : FnScope N_read_leave P_read_leave (defScope s_read_leave) := ⟨rfl, rfl, rfl, by decide +kernel, rfl, by decide +kernel, by decide +kernel⟩
abbrev s_read_block : Stmt := topS 36
abbrev N_read_block : List Str := ["reading", "kind", "line"]
abbrev P_read_block : List Str := ["reading", "kind", "line"]
theorem sc_read_block : FnScope N_read_block P_read_block (defScope s_read_block) := ⟨rfl, rfl, rfl, by decide +kernel, rfl, by decide +kernel, by decide +kernel⟩
abbrev s_read_do : Stmt := topS 32
abbrev N_read_do : List Str := ["reading", "words", "line", "items", "word", "item"]
abbrev P_read_do : List Str := ["reading", "words", "line"]
theorem sc_read_do : FnScope N_read_do P_read_do (defScope s_read_do) := ⟨rfl, rfl, rfl, by decide +kernel, rfl, by decide +kernel, by decide +kernel⟩
abbrev s_read_mode : Stmt := topS 29
abbrev N_read_mode : List Str := ["reading", "words", "many", "prices", "value", "price"]
abbrev P_read_mode : List Str := ["reading", "words"]
theorem sc_read_mode : FnScope N_read_mode P_read_mode (defScope s_read_mode) := ⟨rfl, rfl, rfl, by decide +kernel, rfl, by decide +kernel, by decide +kernel⟩
abbrev s_read_inside : Stmt := topS 37
abbrev N_read_inside : List Str := ["reading", "words", "line", "kind"]
abbrev P_read_inside : List Str := ["reading", "words", "line"]
theorem sc_read_inside : FnScope N_read_inside P_read_inside (defScope s_read_inside) := ⟨rfl, rfl, rfl, by decide +kernel, rfl, by decide +kernel, by decide +kernel⟩
abbrev s_read_line : Stmt := topS 38
abbrev N_read_line : List Str := ["reading", "words", "line"]
abbrev P_read_line : List Str := ["reading", "words", "line"]
theorem sc_read_line : FnScope N_read_line P_read_line (defScope s_read_line) := ⟨rfl, rfl, rfl, by decide +kernel, rfl, by decide +kernel, by decide +kernel⟩
abbrev s_read_text : Stmt := topS 39
abbrev N_read_text : List Str := ["text", "lines", "reading", "line", "row", "words", "missing", "name"]
abbrev P_read_text : List Str := ["text"]
theorem sc_read_text : FnScope N_read_text P_read_text (defScope s_read_text) := ⟨rfl, rfl, rfl, by decide +kernel, rfl, by decide +kernel, by decide +kernel⟩
abbrev s_Reading___init__ : Stmt := inClass (topS 28) 0
abbrev N_Reading___init__ : List Str := ["self"]
abbrev P_Reading___init__ : List Str := ["self"]
theorem sc_Reading___init__ : FnScope N_Reading___init__ P_Reading___init__ (defScope s_Reading___init__) := ⟨rfl, rfl, rfl, by decide +kernel, rfl, by decide +kernel, by decide +kernel⟩
structure ReadTxt (K : PySem.W.Frag) (mg : Str → Option Value) (ts : Nat → Tok) (C : Addr) : Prop where
  b_len : mg "len" = none
  b_zip : mg "zip" = none
  b_int : mg "int" = none
  b_list : mg "list" = none
  b_reversed : mg "reversed" = none
  b_enumerate : mg "enumerate" = none
  g_MOST_CHARACTERS : mg "MOST_CHARACTERS" = some (.int 6000 (ts 5))
  g_MOST_LINES : mg "MOST_LINES" = some (.int 120 (ts 6))
  g_MOST_MODES : mg "MOST_MODES" = some (.int 6 (ts 7))
  g_MOST_VALUES : mg "MOST_VALUES" = some (.int 6 (ts 8))
  g_MOST_PROCEDURES : mg "MOST_PROCEDURES" = some (.int 6 (ts 9))
  g_MOST_BLOCKS : mg "MOST_BLOCKS" = some (.int 8 (ts 10))
  g_MOST_ITEMS : mg "MOST_ITEMS" = some (.int 6 (ts 11))
  rd : RdTxt K C
/-- the words of a line -/
structure WdAt (K : PySem.W.Frag) (H : Hp) (p : Addr) (ad : Nat → Addr) (a : Addr) (ws : List Str) : Prop where
  at_ : H a = some (.lst (ws.map V.str))
  np : a ≠ p
  ni : ∀ i < 12, a ≠ ad i
  len : ws.length < 10000
  el : ∀ w ∈ ws, w.length ≤ 10000
theorem WdAt.fro {H H' : Hp} {p : Addr} {ad : Nat → Addr} {a : Addr} {ws : List Str} (x : WdAt K H p ad a ws) (f : Fro p ad H H') : WdAt K H' p ad a ws := ⟨f _ _ x.at_ x.np x.ni, x.np, x.ni, x.len, x.el⟩
theorem WdAt.same {H H' : Hp} {p : Addr} {ad : Nat → Addr} {a : Addr} {ws : List Str} (x : WdAt K H p ad a ws) (f : Same H H') : WdAt K H' p ad a ws := x.fro (Fro.of f)
def sp_read_start (K : PySem.W.Frag) (C : Addr) : Sp := fun vs H Q _ => ∃ (p : Addr) (ad : Nat → Addr) (R : RdM) (a : Addr) (ws : List Str), vs = [.ref p, .ref a] ∧ RdAt C H p ad R ∧ Sm R ∧ WdAt K H p ad a ws ∧ RdPost C p ad H (okStart R ws) (fun _ => stStart R ws) Q
theorem ok_read_start {f : Addr} {fd : FuncData} (F : Fun K "read_start" "read_start" s_read_start f fd) (T : ReadTxt K mg ts C) : FnOk P w K mg base CX0 1 f fd P_read_start (sp_read_start K C) := by
  refine F.ok sc_read_start (fun vs H Q E h => ?_) (fun cdv A outer s H vs Q E hr h => ?_)
  · obtain ⟨p, ad, R, a, ws, rfl, _⟩ := h
    rfl
  · obtain ⟨p, ad, R, a, ws, rfl, r, sm, x, k0, k1⟩ := h
    have hu := hu_of hr
    have hu0 : _ < cLine := Nat.lt_of_succ_lt hu
    have Tr := T.rd
    refine ⟨_, (pss_cons (ps_if (PW.pt (pw_or (pt_cmpR op_ne (pe_callB call_len_seq (by rfl) T.b_len (by decide +kernel) (pa_cons (pv 1) pa_nil)) pe_int (nomark _)) (pw_or (pt_cmpR (op_neD0 hu0) (pe_fld (pv 0) rfl) pe_dnewK (nomark _)) (pw_or1 (pt_cmp (pc_dnotin hu (pe_ix ix_list (pv 1) pe_int (fun _ _ => rfl)) (pe_fld (pv 0) rfl))))))) (pss_one (ps_ret pe_bl)) pss_nil)
      (pss_cons (ps_if (PW.pt (pw_or (pt_cmp (pc_din hu (pe_ix ix_list (pv 1) pe_int (fun _ _ => rfl)) (pe_fld (pv 0) rfl))) (pw_or1 (pt_cmp (pc_dnotin hu (pe_ix ix_list (pv 1) pe_int (fun _ _ => rfl)) (pe_dget hu (pe_fld (pv 0) rfl) (pe_ix ix_list (pv 1) pe_int (fun _ _ => rfl)) (fun _ _ => rfl))))))) (pss_one (ps_ret pe_bl)) pss_nil)
      (pss_cons (ps_dput hu (pe_fld (pv 0) rfl) (pe_ix ix_list (pv 1) pe_int (fun _ _ => rfl)) (pe_ix ix_list (pv 1) pe_int (fun _ _ => rfl)) rfl)
      (pss_one (ps_ret pe_bl))))), ?_⟩
    show tSeq _ _ _ [some (V.ref p), some (V.ref a)] H
    walk_at "rd"
    refine ⟨Or.inl (SqL.of x.at_), ?_⟩
    walk_at "rd"
    refine x_ND (fun h1 => ?_) (fun h1 => ?_)
    · walk_at "rd"
      refine k0 ?_ _ Fro.refl
      match ws, h1 with
      | [], _ => rfl
      | [_], _ => rfl
      | [_, _], _ => rfl
      | [_, _, _], h => exact absurd rfl h
      | _ :: _ :: _ :: _ :: _, _ => rfl
    have h2 : ws.length = 3 := by have := V.int.inj h1; rw [List.length_map] at this; omega
    obtain ⟨w0, m, v, rfl⟩ : ∃ a b c, ws = [a, b, c] := match ws, h2 with | [a, b, c], _ => ⟨a, b, c, rfl⟩
    clear h1 h2
    walk_at "rd"
    intro e ne
    generalize eH : upd H e _ = H1
    have s1 : Same H H1 := eH ▸ same_upd ne
    have e1 : H1 e = some (.dK []) := eH ▸ upd_same
    clear eH
    replace r := r.same s1
    replace x := x.same s1
    have f1 : Fro p ad H H1 := Fro.of s1
    refine x_neD0 r.t2 e1 ?_
    rw [kS_nil]
    walk_at "rd"
    refine x_NB (fun h1 => ?_) (fun h1 => ?_)
    · walk_at "rd"
      refine k0 ?_ _ f1
      show (R.routines.isEmpty && _ && _ && _) = false
      rw [h1]
      rfl
    walk_at "rd"
    refine x_ixL (SqL.of x.at_) (atI_nat (j := 1) rfl) ?_
    walk_at "rd"
    refine r_dninS r.t0 ?_
    walk_at "rd"
    refine x_NB (fun h2 => ?_) (fun h2 => ?_)
    · walk_at "rd"
      refine k0 ?_ _ f1
      show (_ && (look R.modes m).isSome && _ && _) = false
      rw [h2]
      simp
    obtain ⟨mv, hmv⟩ := Option.isSome_iff_exists.mp h2
    walk_at "rd"
    refine x_ixL (SqL.of x.at_) (atI_nat (j := 1) rfl) ?_
    walk_at "rd"
    refine r_dinS r.t1 ?_
    walk_at "rd"
    refine x_B (fun h3 => ?_) (fun h3 => ?_)
    · walk_at "rd"
      refine k0 ?_ _ f1
      show (_ && _ && !(look R.begins m).isSome && _) = false
      rw [h3]
      simp
    walk_at "rd"
    refine x_ixL (SqL.of x.at_) (atI_nat (j := 2) rfl) ?_
    walk_at "rd"
    refine x_ixL (SqL.of x.at_) (atI_nat (j := 1) rfl) ?_
    walk_at "rd"
    refine r_getS r.t0 hmv ?_
    walk_at "rd"
    refine r_dninS (r.ne.mo _ (look_mem hmv)).1 ?_
    walk_at "rd"
    have ke : okStart R [w0, m, v] = (look mv.2 v).isSome := by
      show (R.routines.isEmpty && (look R.modes m).isSome && !(look R.begins m).isSome && (match look R.modes m with | some x => (look x.2 v).isSome | none => false)) = _
      rw [h1, h2, h3, hmv]
      rfl
    rw [ke] at k0 k1
    refine x_NB (fun h4 => ?_) (fun h4 => ?_)
    · walk_at "rd"
      exact k0 h4 _ f1
    walk_at "rd"
    refine x_ixL (SqL.of x.at_) (atI_nat (j := 2) rfl) ?_
    walk_at "rd"
    refine x_ixL (SqL.of x.at_) (atI_nat (j := 1) rfl) ?_
    walk_at "rd"
    refine r_putGS v r.t1 (lt5 sm.s1) ?_
    walk_at "rd"
    exact k1 h4 0 _ (f1.trans (Fro.put (by decide))) (r.put 1 (by decide) rfl rfl ⟨r.ne.mo, r.ne.os, r.ne.wo⟩)
def sp_read_proc (K : PySem.W.Frag) (C : Addr) : Sp := fun vs H Q _ => ∃ (p : Addr) (ad : Nat → Addr) (R : RdM) (a : Addr) (ws : List Str) (line : Int), vs = [.ref p, .ref a, .int line] ∧ RdAt C H p ad R ∧ Sm R ∧ WdAt K H p ad a ws ∧ RdPost C p ad H (okProc isName R ws) (fun _ => stProc R line ws) Q
theorem ok_read_proc {f : Addr} {fd : FuncData} (F : Fun K "read_proc" "read_proc" s_read_proc f fd) (T : ReadTxt K mg ts C) (c_is_name : Cal P w K mg base 2 "is_name" sp_is_name) : FnOk P w K mg base CX0 3 f fd P_read_proc (sp_read_proc K C) := by
  refine F.ok sc_read_proc (fun vs H Q E h => ?_) (fun cdv A outer s H vs Q E hr h => ?_)
  · obtain ⟨p, ad, R, a, ws, line, rfl, _⟩ := h
    rfl
  · obtain ⟨p, ad, R, a, ws, line, rfl, r, sm, x, k0, k1⟩ := h
    have hu := hu_of hr
    have hu0 : _ < cLine := Nat.lt_of_succ_lt hu
    have Tr := T.rd
    refine ⟨_, (pss_cons (ps_if (PW.pt (pw_or (pt_cmpR op_ne (pe_callB call_len_seq (by rfl) T.b_len (by decide +kernel) (pa_cons (pv 1) pa_nil)) pe_int (nomark _)) (pw_or (pt_cmpR op_notN (pe_fld (pv 0) rfl) pe_non (nomark _)) (pw_or1 (pt_not (pt_val (pe_cc c_is_name hr (by decide) rfl (pa_cons (pe_ix ix_list (pv 1) pe_int (fun _ _ => rfl)) pa_nil)))))))) (pss_one (ps_ret pe_bl)) pss_nil)
      (pss_cons (ps_if (PW.pt (pw_or (pt_cmp (pc_din hu (pe_ix ix_list (pv 1) pe_int (fun _ _ => rfl)) (pe_fld (pv 0) rfl))) (pw_or1 (pt_cmpR op_eq (pe_callB call_lenD (by rfl) T.b_len (by decide +kernel) (pa_cons (pe_fld (pv 0) rfl) pa_nil)) (pe_glob (v := V.int _) rfl T.g_MOST_PROCEDURES ⟨_, rfl⟩) (nomark _))))) (pss_one (ps_ret pe_bl)) pss_nil)
      (pss_cons (ps_dput hu (pe_fld (pv 0) rfl) (pe_ix ix_list (pv 1) pe_int (fun _ _ => rfl)) (pv 2) rfl)
      (pss_cons (ps_fld (pv 0) (pe_ix ix_list (pv 1) pe_int (fun _ _ => rfl)) rfl)
      (pss_one (ps_ret pe_bl)))))), ?_⟩
    show tSeq _ _ _ [some (V.ref p), some (V.ref a), some (V.int line)] H
    walk_at "rd"
    refine ⟨Or.inl (SqL.of x.at_), ?_⟩
    walk_at "rd"
    refine x_ND (fun h1 => ?_) (fun h1 => ?_)
    · walk_at "rd"
      refine k0 ?_ _ Fro.refl
      match ws, h1 with
      | [], _ => rfl
      | [_], _ => rfl
      | [_, _], h => exact absurd rfl h
      | _ :: _ :: _ :: _, _ => rfl
    have h2 : ws.length = 2 := by have := V.int.inj h1; rw [List.length_map] at this; omega
    obtain ⟨w0, n, rfl⟩ : ∃ a b, ws = [a, b] := match ws, h2 with | [a, b], _ => ⟨a, b, rfl⟩
    clear h1 h2
    have hln := x.el n (by simp)
    walk_at "rd"
    have ke : okProc isName R [w0, n] = (R.owner.isNone && isName n && !(look R.routines n).isSome && !decide (R.routines.length = 6)) := rfl
    refine x_ND (fun h1 => ?_) (fun h1 => ?_)
    · walk_at "rd"
      refine k0 ?_ _ Fro.refl
      rw [ke]
      have : R.owner.isNone = false := by
        cases e : R.owner with
        | none => exact absurd (own_non.mpr e) h1
        | some o => rfl
      rw [this]
      rfl
    have ho : R.owner = none := own_non.mp h1
    rw [show R.owner.isNone = true by rw [ho]; rfl] at ke
    walk_at "rd"
    refine x_ixL (SqL.of x.at_) (atI_nat (j := 1) rfl) ?_
    walk_at "rd"
    refine ⟨n, rfl, hln, ?_⟩
    walk_at "rd"
    refine x_NB (fun h2 => ?_) (fun h2 => ?_)
    · walk_at "rd"
      refine k0 ?_ _ Fro.refl
      rw [ke, h2]
      rfl
    walk_at "rd"
    refine x_ixL (SqL.of x.at_) (atI_nat (j := 1) rfl) ?_
    walk_at "rd"
    refine r_dinS r.t2 ?_
    walk_at "rd"
    refine x_B (fun h3 => ?_) (fun h3 => ?_)
    · walk_at "rd"
      refine k0 ?_ _ Fro.refl
      rw [ke, h3]
      simp
    have t2 := r.t2
    walk_at "rd"
    rw [kS_len]
    refine x_D (fun h4 => ?_) (fun h4 => ?_)
    · walk_at "rd"
      refine k0 ?_ _ Fro.refl
      have : R.routines.length = 6 := by have := V.int.inj h4; omega
      rw [ke, decide_eq_true this]
      simp
    walk_at "rd"
    refine x_ixL (SqL.of x.at_) (atI_nat (j := 1) rfl) ?_
    walk_at "rd"
    refine r_putGS line r.t2 (lt5 sm.s2) ?_
    have r2 : RdAt C _ p ad { R with routines := putG R.routines n line } := r.put (o := .dK (kS V.int (putG R.routines n line))) 2 (by decide) rfl rfl ⟨r.ne.mo, r.ne.os, r.ne.wo⟩
    have f2 : Fro p ad H _ := Fro.put (o := .dK (kS V.int (putG R.routines n line))) (i := 2) (by decide)
    replace x := x.fro f2
    obtain ⟨dx, hob⟩ := r2.ob
    walk_at "rd"
    refine x_ixL (SqL.of x.at_) (atI_nat (j := 1) rfl) ?_
    walk_at "rd"
    refine ⟨_, rfl, hob, T.rd.cl, T.rd.na _ (by decide +kernel), Nat.le_of_ble_eq_true rfl, ?_⟩
    walk_at "rd"
    refine k1 ?_ 0 _ (f2.trans Fro.own) (r2.own (some n) dx)
    rw [ke, h2, h3, decide_eq_false (show ¬ R.routines.length = 6 from fun z => h4 (by rw [z]; rfl))]
    rfl
end
end MP
end
section
open PySem L2 MPX MP
local macro_rules | `(tactic| walk_at "rd1") => `(tactic| first
  | with_reducible refine x_seq ?_
  | with_reducible refine x_next ?_
  | with_reducible refine x_ret ?_
  | with_reducible refine x_retN ?_
  | with_reducible refine x_ifs ?_
  | with_reducible refine x_asg ?_
  | with_reducible refine x_drop ?_
  | with_reducible refine x_name ?_
  | ((with_reducible refine' x_var ?vv ?_); (case vv => exact rfl))
  | with_reducible refine x_c ?_
  | with_reducible refine x_op ?_
  | with_reducible refine x_un ?_
  | with_reducible refine x_test ?_
  | with_reducible refine x_tB ?_
  | with_reducible refine x_and ?_
  | with_reducible refine x_or ?_
  | with_reducible refine x_not ?_
  | with_reducible refine x_andV ?_
  | with_reducible refine x_orV ?_
  | with_reducible refine x_notV ?_
  | with_reducible refine x_if ?_
  | with_reducible refine x_nil ?_
  | with_reducible refine x_cons ?_
  | with_reducible refine x_tup ?_
  | with_reducible refine x_lst ?_
  | with_reducible refine x_cb ?_
  | with_reducible refine x_call ?_
  | with_reducible refine x_callS ?_
  | with_reducible refine x_callP ?_
  | with_reducible refine x_mk0 ?_
  | with_reducible refine x_mk1 ?_
  | with_reducible refine x_mk2 ?_
  | with_reducible refine x_make ?_
  | with_reducible refine x_sfld ?_
  | with_reducible refine x_din ?_
  | with_reducible refine x_dnin ?_
  | with_reducible refine x_fldS ?_
  | with_reducible refine x_sl3 ?_
  | ((with_reducible refine' r_rd ?vr ?vt ?vm ?vl ?vq); (case vr => (with_reducible assumption)); (case vt => assumption); (case vm => decide +kernel); (case vl => exact rfl))
  | with_reducible refine x_m0 ?_
  | with_reducible refine x_m1 ?_
  | with_reducible refine x_bm0 ?_
  | with_reducible refine x_bm ?_
  | with_reducible refine x_par ?_
  | with_reducible refine x_ilist ?_
  | with_reducible refine x_itup ?_
  | with_reducible refine x_istr ?_
  | ((with_reducible show tLc _ _ _ _ _ _ _ _); unfold tLc)
  | ((with_reducible show tFor _ _ _ _ _ _); unfold tFor)
  | ((with_reducible refine' x_eq ?vv ?_); (case vv => exact rfl))
  | ((with_reducible refine' x_ne ?vv ?_); (case vv => exact rfl))
  | with_reducible refine x_rI0 ?_
  | with_reducible refine x_dgetR ?_
  | with_reducible refine x_dputR ?_
  | with_reducible refine x_dnew ?_
  | with_reducible refine x_dget1 ?_
  | with_reducible refine x_dget2 ?_
  | with_reducible refine x_sl ?_
  | with_reducible refine x_nopart ?_
  | with_reducible refine x_part ?_
  | ((with_reducible refine' x_slL ?vv ?_); (case vv => (with_reducible assumption)))
  | with_reducible refine x_disp ?_
  | with_reducible refine x_pcons ?_
  | with_reducible refine x_pnil ?_
  | ((with_reducible refine' x_mod ?vv ?_); (case vv => omega); intro r er hr0 hr1; (try clear er))
  | ((with_reducible refine' x_rI ?vv ?_); (case vv => walk_at "sc"))
  | (with_reducible refine Or.inl (Exists.intro _ (And.intro rfl ?_)))
  | with_reducible refine x_T ?_
  | with_reducible refine x_F ?_
  | ((with_reducible show Exists (α := V) _); (with_reducible apply Exists.intro))
  | ((with_reducible show Exists (α := Bool) _); (with_reducible apply Exists.intro))
  | ((with_reducible show Exists (α := Nat) _); (with_reducible apply Exists.intro))
  | ((with_reducible show Exists (α := Int) _); (with_reducible apply Exists.intro))
  | ((with_reducible show Exists (α := List V) _); (with_reducible apply Exists.intro))
  | ((with_reducible show Exists (α := PySem.Str) _); (with_reducible apply Exists.intro))
  | ((with_reducible show Exists (α := Option V) _); (with_reducible apply Exists.intro))
  | ((with_reducible show Exists (α := Option Int) _); (with_reducible apply Exists.intro))
  | ((with_reducible show Exists (α := List (Key × V)) _); (with_reducible apply Exists.intro))
  | refine And.intro rfl ?_
  | ((with_reducible refine And.intro ?vv ?_); (case vv => (first | (with_reducible assumption) | (show _ ≤ sizeLine; decide) | exact len_ok rfl)))
  | (refine And.intro (Exists.intro _ rfl) ?_))
local macro_rules | `(tactic| walk_at "sc") => `(tactic| first
  | (with_reducible assumption)
  | exact divW (by omega) (by omega)
  | exact mulW (by omega) (by omega)
  | exact Or.inl ⟨by omega, by omega⟩
  | exact Or.inr ⟨by omega, by omega⟩
  | (show (_ : Int) ≠ 0; omega)
  | exact ⟨by decide, by decide, by decide⟩
  | decide)
local macro_rules | `(tactic| walk_at "rd") => `(tactic| repeat walk_at "rd1")
namespace MP
open PySem L2
section
variable {P : Program} {w : World} {K : PySem.W.Frag} {mg : Str → Option Value} {base : Heap} {ts : Nat → Tok} {kw C : Addr}
def sp_read_end (C : Addr) : Sp := fun vs H Q _ => ∃ (p : Addr) (ad : Nat → Addr) (R : RdM) (line : Int) (o : Str), vs = [.ref p, .int line] ∧ RdAt C H p ad R ∧ Sm R ∧ R.owner = some o ∧ ∀ H', Fro p ad H H' → RdAt C H' p ad (stEnd R line) → Q .non H'
theorem ok_read_end {f : Addr} {fd : FuncData} (F : Fun K "read_end" "read_end" s_read_end f fd) (T : ReadTxt K mg ts C) : FnOk P w K mg base CX0 1 f fd P_read_end (sp_read_end C) := by
  refine F.ok sc_read_end (fun vs H Q E h => ?_) (fun cdv A outer s H vs Q E hr h => ?_)
  · obtain ⟨p, ad, R, line, o, rfl, _⟩ := h
    rfl
  · obtain ⟨p, ad, R, line, o, rfl, r, sm, ho, k⟩ := h
    have hu := hu_of hr
    have Tr := T.rd
    refine ⟨_, (pss_cons (ps_if (pt_cmpR (op_eqD hr.units) (pe_fld (pv 0) rfl) (pe_lst pa_nil) (nomark _)) (pss_cons (ps_dput hu (pe_fld (pv 0) rfl) (pe_fld (pv 0) rfl) (pv 1) rfl)
      (pss_cons (ps_fld (pv 0) pe_non rfl)
      (pss_one ps_retN))) pss_nil)
      (pss_cons (ps_set (i := 2) sc_read_end.nd rfl (Or.inl rfl) (pe_bm0 PySem.F.plainAttrs_list PySem.F.slot_list_pop PySem.F.type_list_pop mt_pop (pe_fld (pv 0) rfl)))
      (pss_cons (ps_dput hu (pe_fld (pv 0) rfl) (pv 2) (pv 1) rfl)
      (pss_one (ps_dput hu (pe_fld (pv 0) rfl) (pv 1) (pv 2) rfl))))), ?_⟩
    show tSeq _ _ _ [some (V.ref p), some (V.int line), none] H
    walk_at "rd"
    intro e ne
    generalize eH : upd H e _ = H1
    have s1 : Same H H1 := eH ▸ same_upd ne
    have e1 : H1 e = some (.lst []) := eH ▸ upd_same
    clear eH
    replace r := r.same s1
    have f1 : Fro p ad H H1 := Fro.of s1
    refine x_eqNil (SqL.of r.t11) e1 ?_
    walk_at "rd"
    refine x_B (fun h1 => ?_) (fun h1 => ?_)
    · have hb : R.blocks = [] := List.isEmpty_iff.mp h1
      walk_at "rd"
      rw [ho]
      refine r_putGS line r.t10 (lt5 sm.s10) ?_
      have r2 : RdAt C _ p ad { R with ends := putG R.ends o line } := r.put (o := .dK (kS V.int (putG R.ends o line))) 10 (by decide) rfl rfl ⟨r.ne.mo, r.ne.os, r.ne.wo⟩
      have f2 : Fro p ad H1 _ := Fro.put (o := .dK (kS V.int (putG R.ends o line))) (i := 10) (by decide)
      obtain ⟨dx, hob⟩ := r2.ob
      walk_at "rd"
      refine ⟨_, rfl, hob, T.rd.cl, T.rd.na _ (by decide +kernel), Nat.le_of_ble_eq_true rfl, ?_⟩
      walk_at "rd"
      have e3 : stEnd R line = { R with ends := putG R.ends o line, owner := none } := by
        unfold stEnd
        rw [hb, ho]
        rfl
      rw [e3] at k
      exact k _ ((f1.trans f2).trans Fro.own) (r2.own none dx)
    · obtain ⟨first, hf⟩ : ∃ first, R.blocks.getLast? = some first := by
        cases e : R.blocks.getLast? with
        | none => rw [List.getLast?_eq_none_iff.mp e] at h1; cases h1
        | some z => exact ⟨z, rfl⟩
      have e3 : stEnd R line = { R with blocks := R.blocks.dropLast, partners := putG (putG R.partners first line) line first } := by
        unfold stEnd
        rw [hf]
      rw [e3] at k
      walk_at "rd"
      refine ⟨Or.inl ⟨rfl, _, SqL.of r.t11⟩, ad 11, R.blocks.map V.int, V.int first, rfl, rfl, r.t11, by rw [← List.getLast?_eq_getElem?, List.getLast?_map, hf]; rfl, ?_⟩
      rw [show (R.blocks.map V.int).dropLast = R.blocks.dropLast.map V.int from List.map_dropLast.symm]
      have r2 : RdAt C _ p ad { R with blocks := R.blocks.dropLast } := r.put (o := .lst (R.blocks.dropLast.map V.int)) 11 (by decide) rfl rfl ⟨r.ne.mo, r.ne.os, r.ne.wo⟩
      have f2 : Fro p ad H1 _ := Fro.put (o := .lst (R.blocks.dropLast.map V.int)) (i := 11) (by decide)
      walk_at "rd"
      refine r_putGI line r2.t5 (lt5 sm.s5) ?_
      have r3 : RdAt C _ p ad { R with blocks := R.blocks.dropLast, partners := putG R.partners first line } := r2.put (o := .dK (kI V.int (putG R.partners first line))) 5 (by decide) rfl rfl ⟨r2.ne.mo, r2.ne.os, r2.ne.wo⟩
      have f3 : Fro p ad _ _ := f2.trans (Fro.put (o := .dK (kI V.int (putG R.partners first line))) (i := 5) (by decide))
      walk_at "rd"
      refine r_putGI first r3.t5 (lt6 (Nat.le_trans (putG_len ..) (Nat.succ_le_of_lt sm.s5))) ?_
      have r4 : RdAt C _ p ad { R with blocks := R.blocks.dropLast, partners := putG (putG R.partners first line) line first } := r3.put (o := .dK (kI V.int (putG (putG R.partners first line) line first))) 5 (by decide) rfl rfl ⟨r3.ne.mo, r3.ne.os, r3.ne.wo⟩
      have f4 : Fro p ad _ _ := f3.trans (Fro.put (o := .dK (kI V.int (putG (putG R.partners first line) line first))) (i := 5) (by decide))
      exact k _ (f1.trans f4) r4
def sp_read_block (C : Addr) : Sp := fun vs H Q _ => ∃ (p : Addr) (ad : Nat → Addr) (R : RdM) (kind : Str) (line : Int), vs = [.ref p, .str kind, .int line] ∧ RdAt C H p ad R ∧ Sm R ∧ RdPost C p ad H (okBlock R) (stBlock R kind line) Q
theorem ok_read_block {f : Addr} {fd : FuncData} (F : Fun K "read_block" "read_block" s_read_block f fd) (T : ReadTxt K mg ts C) : FnOk P w K mg base CX0 1 f fd P_read_block (sp_read_block C) := by
  refine F.ok sc_read_block (fun vs H Q E h => ?_) (fun cdv A outer s H vs Q E hr h => ?_)
  · obtain ⟨p, ad, R, kind, line, rfl, _⟩ := h
    rfl
  · obtain ⟨p, ad, R, kind, line, rfl, r, sm, k0, k1⟩ := h
    have hu := hu_of hr
    have Tr := T.rd
    refine ⟨_, (pss_cons (ps_if (pt_cmpR op_eq (pe_callB call_len_seq (by rfl) T.b_len (by decide +kernel) (pa_cons (pe_fld (pv 0) rfl) pa_nil)) (pe_glob (v := V.int _) rfl T.g_MOST_BLOCKS ⟨_, rfl⟩) (nomark _)) (pss_one (ps_ret pe_bl)) pss_nil)
      (pss_cons (ps_expr (pe_bm PySem.F.plainAttrs_list PySem.F.slot_list_append PySem.F.type_list_append mt_append (pe_fld (pv 0) rfl) (pa_cons (pv 2) pa_nil)))
      (pss_cons (ps_if (pt_cmpR op_eq (pv 1) pe_str (nomark _)) (pss_one (ps_dput hu (pe_fld (pv 0) rfl) (pv 2) (pe_tup pa_nil) rfl)) pss_nil)
      (pss_one (ps_ret pe_bl))))), ?_⟩
    show tSeq _ _ _ [some (V.ref p), some (V.str kind), some (V.int line)] H
    walk_at "rd"
    refine ⟨Or.inl (SqL.of r.t11), ?_⟩
    walk_at "rd"
    refine x_D (fun h1 => ?_) (fun h1 => ?_)
    · walk_at "rd"
      refine k0 ?_ _ Fro.refl
      have : R.blocks.length = 8 := by have := V.int.inj h1; rw [List.length_map] at this; omega
      unfold okBlock
      rw [decide_eq_true this]
      rfl
    have ke : okBlock R = true := by
      unfold okBlock
      rw [decide_eq_false fun z => h1 (by rw [List.length_map, z]; rfl)]
      rfl
    walk_at "rd"
    refine ⟨Or.inl ⟨rfl, _, SqL.of r.t11⟩, ?_⟩
    walk_at "rd"
    refine ⟨ad 11, _, V.int line, rfl, rfl, r.t11, ?_, ?_⟩
    · rw [List.length_map]
      have := sm.s11
      have := big5
      omega
    rw [show R.blocks.map V.int ++ [V.int line] = (R.blocks ++ [line]).map V.int from by rw [List.map_append]; rfl]
    have r2 : RdAt C _ p ad { R with blocks := R.blocks ++ [line] } := r.put (o := .lst ((R.blocks ++ [line]).map V.int)) 11 (by decide) rfl rfl ⟨r.ne.mo, r.ne.os, r.ne.wo⟩
    have f2 : Fro p ad H _ := Fro.put (o := .lst ((R.blocks ++ [line]).map V.int)) (i := 11) (by decide)
    walk_at "rd"
    refine x_D (fun h2 => ?_) (fun h2 => ?_)
    · walk_at "rd"
      intro q nq
      have r3 := r2.same (same_upd (o := .tup []) nq)
      have f3 : Fro p ad H _ := f2.trans (Fro.of (same_upd (o := .tup []) nq))
      have hq := r2.fresh nq
      walk_at "rd"
      refine r_putGI (f := fun x : Addr × List Int => V.ref x.1) (q, ([] : List Int)) r3.t6 (lt5 sm.s6) ?_
      have r4 : RdAt C _ p ad { R with blocks := R.blocks ++ [line], ors := putG R.ors line (q, []) } := r3.put (o := .dK (kI (fun x : Addr × List Int => V.ref x.1) (putG R.ors line (q, [])))) 6 (by decide) rfl rfl ⟨r3.ne.mo, fun x hx => by
        rcases mem_putG hx with e | hx
        · subst e
          exact ⟨upd_same, hq⟩
        · exact r3.ne.os x hx, r3.ne.wo⟩
      walk_at "rd"
      have e3 : stBlock R kind line q = { R with blocks := R.blocks ++ [line], ors := putG R.ors line (q, []) } := if_pos (V.str.inj h2)
      exact k1 ke q _ (f3.trans (Fro.put (by decide))) (e3 ▸ r4)
    · walk_at "rd"
      have e3 : stBlock R kind line 0 = { R with blocks := R.blocks ++ [line] } := if_neg fun z => h2 (by rw [z])
      exact k1 ke 0 _ f2 (e3 ▸ r2)
def sp_read_or (C : Addr) : Sp := fun vs H Q _ => ∃ (p : Addr) (ad : Nat → Addr) (R : RdM) (line : Int), vs = [.ref p, .int line] ∧ RdAt C H p ad R ∧ Sm R ∧ Sm2 R ∧ BlkT R ∧ RdPost C p ad H (okOr R) (stOr R line) Q
theorem ok_read_or {f : Addr} {fd : FuncData} (F : Fun K "read_or" "read_or" s_read_or f fd) (T : ReadTxt K mg ts C) : FnOk P w K mg base CX0 1 f fd P_read_or (sp_read_or C) := by
  refine F.ok sc_read_or (fun vs H Q E h => ?_) (fun cdv A outer s H vs Q E hr h => ?_)
  · obtain ⟨p, ad, R, line, rfl, _⟩ := h
    rfl
  · obtain ⟨p, ad, R, line, rfl, r, sm, sm2, bt, k0, k1⟩ := h
    have hu := hu_of hr
    have Tr := T.rd
    refine ⟨_, (pss_cons (ps_if (PW.pt (pw_or (pt_cmpR (op_eqD hr.units) (pe_fld (pv 0) rfl) (pe_lst pa_nil) (nomark _)) (pw_or1 (pt_cmpR op_ne (pe_dget hu (pe_fld (pv 0) rfl) (pe_ix ix_list (pe_fld (pv 0) rfl) pe_neg1 (fun _ _ => rfl)) (fun _ _ => rfl)) pe_str (nomark _))))) (pss_one (ps_ret pe_bl)) pss_nil)
      (pss_cons (ps_set (i := 2) sc_read_or.nd rfl (Or.inl rfl) (pe_ix ix_list (pe_fld (pv 0) rfl) pe_neg1 (fun _ _ => rfl)))
      (pss_cons (ps_dput hu (pe_fld (pv 0) rfl) (pv 1) (pv 2) rfl)
      (pss_cons (ps_dput hu (pe_fld (pv 0) rfl) (pv 2) (pe_op op_catA (pe_dget hu (pe_fld (pv 0) rfl) (pv 2) (fun _ _ => rfl)) (pe_tup (pa_cons (pv 1) pa_nil))) rfl)
      (pss_one (ps_ret pe_bl)))))), ?_⟩
    show tSeq _ _ _ [some (V.ref p), some (V.int line), none] H
    walk_at "rd"
    intro e ne
    generalize eH : upd H e _ = H1
    have s1 : Same H H1 := eH ▸ same_upd ne
    have e1 : H1 e = some (.lst []) := eH ▸ upd_same
    clear eH
    replace r := r.same s1
    have f1 : Fro p ad H H1 := Fro.of s1
    refine x_eqNil (SqL.of r.t11) e1 ?_
    walk_at "rd"
    refine x_B (fun h1 => ?_) (fun h1 => ?_)
    · have hb : R.blocks = [] := List.isEmpty_iff.mp h1
      walk_at "rd"
      refine k0 ?_ _ f1
      unfold okOr
      rw [hb]
      rfl
    obtain ⟨first, hf⟩ : ∃ first, R.blocks.getLast? = some first := by
      cases e : R.blocks.getLast? with
      | none => rw [List.getLast?_eq_none_iff.mp e] at h1; cases h1
      | some z => exact ⟨z, rfl⟩
    have hl : atI (R.blocks.map V.int) (-1) = some (V.int first) := at_last (by rw [List.getLast?_map, hf]; rfl)
    obtain ⟨kd, hk, hor⟩ := bt first (List.mem_of_getLast? hf)
    have ke : okOr R = decide (kd = ("either" : Str)) := by
      unfold okOr
      simp only [hf, hk]
    walk_at "rd"
    refine x_ixL (SqL.of r.t11) hl ?_
    walk_at "rd"
    refine r_getI r.t3 hk ?_
    walk_at "rd"
    refine x_ND (fun h2 => ?_) (fun h2 => ?_)
    · walk_at "rd"
      refine k0 ?_ _ f1
      rw [ke]
      exact decide_eq_false fun z => h2 (by rw [z])
    replace ke : okOr R = true := by rw [ke]; exact decide_eq_true (V.str.inj h2)
    obtain ⟨xo, hxo⟩ := Option.isSome_iff_exists.mp (hor (V.str.inj h2))
    have hso : xo.2.length < 1000 := sm2.o _ (look_mem hxo)
    walk_at "rd"
    refine x_ixL (SqL.of r.t11) hl ?_
    walk_at "rd"
    refine r_putGI first r.t5 (lt5 sm.s5) ?_
    have r2 : RdAt C _ p ad { R with partners := putG R.partners line first } := r.put (o := .dK (kI V.int (putG R.partners line first))) 5 (by decide) rfl rfl ⟨r.ne.mo, r.ne.os, r.ne.wo⟩
    have f2 : Fro p ad H _ := f1.trans (Fro.put (o := .dK (kI V.int (putG R.partners line first))) (i := 5) (by decide))
    walk_at "rd"
    refine r_getI r2.t6 hxo ?_
    have hto := (r2.ne.os _ (look_mem hxo)).1
    walk_at "rd"
    intro t nt
    have r3 := r2.same (same_upd (o := .tup [V.int line]) nt)
    have f3 : Fro p ad H _ := f2.trans (Fro.of (same_upd (o := .tup [V.int line]) nt))
    refine x_catA (SqT.of (upd_new hto nt)) upd_same (fun z => by cases z) (by rw [List.length_map]; have := big5; simp only [List.length_cons, List.length_nil]; omega) fun q H5 s5 e5 => ?_
    rw [show xo.2.map V.int ++ [V.int line] = (xo.2 ++ [line]).map V.int from by rw [List.map_append]; rfl] at e5
    replace r3 := r3.same s5
    replace f3 := f3.trans (Fro.of s5)
    walk_at "rd"
    refine r_putGI (f := fun x : Addr × List Int => V.ref x.1) (q, xo.2 ++ [line]) r3.t6 (lt5 sm.s6) ?_
    have r4 : RdAt C _ p ad { R with partners := putG R.partners line first, ors := putG R.ors first (q, xo.2 ++ [line]) } := r3.put (o := .dK (kI (fun x : Addr × List Int => V.ref x.1) (putG R.ors first (q, xo.2 ++ [line])))) 6 (by decide) rfl rfl ⟨r3.ne.mo, fun x hx => by
      rcases mem_putG hx with e | hx
      · subst e
        exact ⟨e5, r3.not_tup e5⟩
      · exact r3.ne.os x hx, r3.ne.wo⟩
    walk_at "rd"
    have e3 : stOr R line q = { R with partners := putG R.partners line first, ors := putG R.ors first (q, xo.2 ++ [line]) } := by
      unfold stOr
      simp only [hf, hxo]
    exact k1 ke q _ (f3.trans (Fro.put (by decide))) (e3 ▸ r4)
def sp_read_leave (C : Addr) : Sp := fun vs H Q _ => ∃ (p : Addr) (ad : Nat → Addr) (R : RdM) (line : Int), vs = [.ref p, .int line] ∧ RdAt C H p ad R ∧ Sm R ∧ BlkT R ∧ RdPost C p ad H (okLeave R) (fun _ => stLeave R line) Q
theorem ok_read_leave {f : Addr} {fd : FuncData} (F : Fun K "read_leave" "read_leave" s_read_leave f fd) (T : ReadTxt K mg ts C) : FnOk P w K mg base CX0 1 f fd P_read_leave (sp_read_leave C) := by
  refine F.ok sc_read_leave (fun vs H Q E h => ?_) (fun cdv A outer s H vs Q E hr h => ?_)
  · obtain ⟨p, ad, R, line, rfl, _⟩ := h
    rfl
  · obtain ⟨p, ad, R, line, rfl, r, sm, bt, k0, k1⟩ := h
    have hu := hu_of hr
    have Tr := T.rd
    refine ⟨_, (pss_cons (ps_for PassesOwn.never rfl (pi_reversed (by rfl) T.b_reversed (pa_cons (pe_callTy call_list_of (by rfl) T.b_list (by decide +kernel) (pa_cons (pe_fld (pv 0) rfl) pa_nil)) pa_nil)) (pg_name (i := 2) sc_read_leave.nd rfl (Or.inl rfl))
      (pss_one (ps_if (pt_cmpR op_eq (pe_dget hu (pe_fld (pv 0) rfl) (pv 2) (fun _ _ => rfl)) pe_str (nomark _)) (pss_cons (ps_dput hu (pe_fld (pv 0) rfl) (pv 1) (pv 2) rfl)
        (pss_one (ps_ret pe_bl))) pss_nil)))
      (pss_one (ps_ret pe_bl))), ?_⟩
    show tSeq _ _ _ [some (V.ref p), some (V.int line), none] H
    walk_at "rd"
    refine x_irev ?_
    walk_at "rd"
    refine ⟨Or.inl (SqL.of r.t11), fun l nl => ?_⟩
    generalize eH : upd H l _ = H1
    have s1 : Same H H1 := eH ▸ same_upd nl
    have e1 : H1 l = some (.lst (R.blocks.map V.int)) := eH ▸ upd_same
    clear eH
    replace r := r.same s1
    have f1 : Fro p ad H H1 := Fro.of s1
    walk_at "rd"
    refine ⟨SqL.of e1, for_it walk_rev (fun i σ H' => Hold (∃ x, σ = [some (V.ref p), some (V.int line), x] ∧ H' = H1 ∧ ∀ j < i, ∀ x, R.blocks.reverse[j]? = some x → isEver R x = false)) ⟨none, rfl, rfl, fun j hj => absurd hj (Nat.not_lt_zero j)⟩ (fun i σ H' _ ⟨_, _, e, _⟩ => e ▸ SqL.of e1) ?_ ?_⟩
    · rintro i v σ H' H'' hi ⟨x, rfl, rfl, hn⟩ ⟨rfl, hv⟩
      rw [← List.getElem?_reverse hi, ← List.map_reverse, List.getElem?_map] at hv
      obtain ⟨b, hb, rfl⟩ := Option.map_eq_some_iff.mp hv
      obtain ⟨kd, hk, _⟩ := bt b (List.mem_reverse.mp (List.mem_of_getElem? hb))
      have hev : isEver R b = decide (kd = ("ever" : Str)) := by
        unfold isEver
        rw [hk]
        simp
      walk_at "rd"
      refine r_getI r.t3 hk ?_
      walk_at "rd"
      refine x_D (fun h2 => ?_) (fun h2 => ?_)
      · rw [decide_eq_true (V.str.inj h2)] at hev
        walk_at "rd"
        refine r_putGI b r.t8 (lt5 sm.s8) ?_
        walk_at "rd"
        have e3 : stLeave R line = { R with leaves := putG R.leaves line b } := by
          unfold stLeave
          rw [find_at hn hb hev]
        refine k1 ?_ 0 _ (f1.trans (Fro.put (by decide))) (e3 ▸ r.put (o := .dK (kI V.int (putG R.leaves line b))) 8 (by decide) rfl rfl ⟨r.ne.mo, r.ne.os, r.ne.wo⟩)
        exact List.any_eq_true.mpr ⟨b, List.mem_of_getElem? hb, hev⟩
      · rw [decide_eq_false fun z => h2 (by rw [z])] at hev
        walk_at "rd"
        refine ⟨_, rfl, rfl, fun j hj x hx => ?_⟩
        rcases Nat.lt_succ_iff_lt_or_eq.mp hj with hj | rfl
        · exact hn j hj x hx
        · rw [hb] at hx
          cases hx
          exact hev
    · rintro σ H' ⟨x, rfl, rfl, hn⟩
      walk_at "rd"
      refine k0 (any_none fun j hj x hx => hn j ?_ x hx) _ f1
      rw [List.length_reverse] at hj
      rw [List.length_map]
      exact hj
end
end MP
end
section
open PySem L2 MPX MP
local macro_rules | `(tactic| walk_at "rd1") => `(tactic| first
  | with_reducible refine x_seq ?_
  | with_reducible refine x_next ?_
  | with_reducible refine x_ret ?_
  | with_reducible refine x_retN ?_
  | with_reducible refine x_ifs ?_
  | with_reducible refine x_asg ?_
  | with_reducible refine x_drop ?_
  | with_reducible refine x_name ?_
  | ((with_reducible refine' x_var ?vv ?_); (case vv => exact rfl))
  | with_reducible refine x_c ?_
  | with_reducible refine x_op ?_
  | with_reducible refine x_un ?_
  | with_reducible refine x_test ?_
  | with_reducible refine x_tB ?_
  | with_reducible refine x_and ?_
  | with_reducible refine x_or ?_
  | with_reducible refine x_not ?_
  | with_reducible refine x_andV ?_
  | with_reducible refine x_orV ?_
  | with_reducible refine x_notV ?_
  | with_reducible refine x_if ?_
  | with_reducible refine x_nil ?_
  | with_reducible refine x_cons ?_
  | with_reducible refine x_tup ?_
  | with_reducible refine x_lst ?_
  | with_reducible refine x_cb ?_
  | with_reducible refine x_call ?_
  | with_reducible refine x_callS ?_
  | with_reducible refine x_callP ?_
  | with_reducible refine x_mk0 ?_
  | with_reducible refine x_mk1 ?_
  | with_reducible refine x_mk2 ?_
  | with_reducible refine x_make ?_
  | with_reducible refine x_sfld ?_
  | with_reducible refine x_din ?_
  | with_reducible refine x_dnin ?_
  | with_reducible refine x_fldS ?_
  | with_reducible refine x_sl3 ?_
  | ((with_reducible refine' r_rd ?vr ?vt ?vm ?vl ?vq); (case vr => (with_reducible assumption)); (case vt => assumption); (case vm => decide +kernel); (case vl => exact rfl))
  | with_reducible refine x_m0 ?_
  | with_reducible refine x_m1 ?_
  | with_reducible refine x_bm0 ?_
  | with_reducible refine x_bm ?_
  | with_reducible refine x_par ?_
  | with_reducible refine x_ilist ?_
  | with_reducible refine x_itup ?_
  | with_reducible refine x_istr ?_
  | ((with_reducible show tLc _ _ _ _ _ _ _ _); unfold tLc)
  | ((with_reducible show tFor _ _ _ _ _ _); unfold tFor)
  | ((with_reducible refine' x_eq ?vv ?_); (case vv => exact rfl))
  | ((with_reducible refine' x_ne ?vv ?_); (case vv => exact rfl))
  | with_reducible refine x_rI0 ?_
  | with_reducible refine x_dgetR ?_
  | with_reducible refine x_dputR ?_
  | with_reducible refine x_dnew ?_
  | with_reducible refine x_dget1 ?_
  | with_reducible refine x_dget2 ?_
  | with_reducible refine x_sl ?_
  | with_reducible refine x_nopart ?_
  | with_reducible refine x_part ?_
  | ((with_reducible refine' x_slL ?vv ?_); (case vv => (with_reducible assumption)))
  | with_reducible refine x_disp ?_
  | with_reducible refine x_pcons ?_
  | with_reducible refine x_pnil ?_
  | ((with_reducible refine' x_mod ?vv ?_); (case vv => omega); intro r er hr0 hr1; (try clear er))
  | ((with_reducible refine' x_rI ?vv ?_); (case vv => walk_at "sc"))
  | (with_reducible refine Or.inl (Exists.intro _ (And.intro rfl ?_)))
  | with_reducible refine x_T ?_
  | with_reducible refine x_F ?_
  | ((with_reducible show Exists (α := V) _); (with_reducible apply Exists.intro))
  | ((with_reducible show Exists (α := Bool) _); (with_reducible apply Exists.intro))
  | ((with_reducible show Exists (α := Nat) _); (with_reducible apply Exists.intro))
  | ((with_reducible show Exists (α := Int) _); (with_reducible apply Exists.intro))
  | ((with_reducible show Exists (α := List V) _); (with_reducible apply Exists.intro))
  | ((with_reducible show Exists (α := PySem.Str) _); (with_reducible apply Exists.intro))
  | ((with_reducible show Exists (α := Option V) _); (with_reducible apply Exists.intro))
  | ((with_reducible show Exists (α := Option Int) _); (with_reducible apply Exists.intro))
  | ((with_reducible show Exists (α := List (Key × V)) _); (with_reducible apply Exists.intro))
  | refine And.intro rfl ?_
  | ((with_reducible refine And.intro ?vv ?_); (case vv => (first | (with_reducible assumption) | (show _ ≤ sizeLine; decide) | exact len_ok rfl)))
  | (refine And.intro (Exists.intro _ rfl) ?_))
local macro_rules | `(tactic| walk_at "sc") => `(tactic| first
  | (with_reducible assumption)
  | exact divW (by omega) (by omega)
  | exact mulW (by omega) (by omega)
  | exact Or.inl ⟨by omega, by omega⟩
  | exact Or.inr ⟨by omega, by omega⟩
  | (show (_ : Int) ≠ 0; omega)
  | exact ⟨by decide, by decide, by decide⟩
  | decide)
local macro_rules | `(tactic| walk_at "rd") => `(tactic| repeat walk_at "rd1")
namespace MP
open PySem L2
section
variable {P : Program} {w : World} {K : PySem.W.Frag} {mg : Str → Option Value} {base : Heap} {ts : Nat → Tok} {kw C : Addr}
def sp_read_do (K : PySem.W.Frag) (C : Addr) : Sp := fun vs H Q _ => ∃ (p : Addr) (ad : Nat → Addr) (R : RdM) (a : Addr) (ws : List Str) (line : Int), vs = [.ref p, .ref a, .int line] ∧ RdAt C H p ad R ∧ Sm R ∧ WdAt K H p ad a ws ∧ RdPost C p ad H (okDo isName itemOf R ws) (fun q => stDo itemOf R line q ws) Q
theorem ok_read_do {f : Addr} {fd : FuncData} (F : Fun K "read_do" "read_do" s_read_do f fd) (T : ReadTxt K mg ts C) (c_is_name : Cal P w K mg base 2 "is_name" sp_is_name) (c_item_of : Cal P w K mg base 3 "item_of" sp_item_of) : FnOk P w K mg base CX0 4 f fd P_read_do (sp_read_do K C) := by
  refine F.ok sc_read_do (fun vs H Q E h => ?_) (fun cdv A outer s H vs Q E hr h => ?_)
  · obtain ⟨p, ad, R, a, ws, line, rfl, _⟩ := h
    rfl
  · obtain ⟨p, ad, R, a, ws, line, rfl, r, sm, x, k0, k1⟩ := h
    have hu := hu_of hr
    have hu0 : _ < cLine := Nat.lt_of_succ_lt hu
    have Tr := T.rd
    refine ⟨_, (pss_cons (ps_if (PW.pt (pw_or (pt_cmpR op_lt (pe_callB call_len_seq (by rfl) T.b_len (by decide +kernel) (pa_cons (pv 1) pa_nil)) pe_int (nomark _)) (pw_or (pt_cmpR op_gt (pe_callB call_len_seq (by rfl) T.b_len (by decide +kernel) (pa_cons (pv 1) pa_nil)) (pe_op op_add pe_int (pe_glob (v := V.int _) rfl T.g_MOST_ITEMS ⟨_, rfl⟩)) (nomark _)) (pw_or1 (pt_not (pt_val (pe_cc c_is_name hr (by decide) rfl (pa_cons (pe_ix ix_list (pv 1) pe_int (fun _ _ => rfl)) pa_nil)))))))) (pss_one (ps_ret pe_bl)) pss_nil)
      (pss_cons (ps_set (i := 3) sc_read_do.nd rfl (Or.inl rfl) pe_dnewK)
      (pss_cons (ps_for PassesOwn.never rfl (pi_list (pe_slice sl_list (pv 1) (po_some pe_int) po_none)) (pg_name (i := 4) sc_read_do.nd rfl (Or.inl rfl))
      (pss_cons (ps_set (i := 5) sc_read_do.nd rfl (Or.inl rfl) (pe_cc c_item_of hr (by decide) rfl (pa_cons (pv 4) pa_nil)))
      (pss_cons (ps_if (PW.pt (pw_or (pt_cmpR op_isN (pv 5) pe_non (nomark _)) (pw_or (pt_cmp (pc_dnotin hu (pe_ix ix_tup (pv 5) pe_int (fun _ _ => rfl)) (pe_fld (pv 0) rfl))) (pw_or1 (pt_cmp (pc_din hu (pe_ix ix_tup (pv 5) pe_int (fun _ _ => rfl)) (pv 3))))))) (pss_one (ps_ret pe_bl)) pss_nil)
      (pss_cons (ps_if (PW.pt (pw_and (pt_cmpR op_ne (pe_ix ix_tup (pv 5) pe_int (fun _ _ => rfl)) pe_str (nomark _)) (pw_and1 (pt_cmp (pc_dnotin hu (pe_ix ix_tup (pv 5) pe_int (fun _ _ => rfl)) (pe_dget hu (pe_fld (pv 0) rfl) (pe_ix ix_tup (pv 5) pe_int (fun _ _ => rfl)) (fun _ _ => rfl))))))) (pss_one (ps_ret pe_bl)) pss_nil)
      (pss_one (ps_dput hu (pv 3) (pe_ix ix_tup (pv 5) pe_int (fun _ _ => rfl)) (pe_ix ix_tup (pv 5) pe_int (fun _ _ => rfl)) rfl))))))
      (pss_cons (ps_dput hu (pe_fld (pv 0) rfl) (pv 2) (pv 3) rfl)
      (pss_one (ps_ret pe_bl)))))), ?_⟩
    show tSeq _ _ _ [some (V.ref p), some (V.ref a), some (V.int line), none, none, none] H
    walk_at "rd"
    refine ⟨Or.inl (SqL.of x.at_), ?_⟩
    walk_at "rd"
    refine x_D (fun h1 => ?_) (fun h1 => ?_)
    · walk_at "rd"
      refine k0 ?_ _ Fro.refl
      rw [List.length_map] at h1
      match ws, h1 with
      | [], _ => rfl
      | [_], _ => rfl
      | _ :: _ :: r, h => exact absurd h (by simp only [List.length_cons]; omega)
    obtain ⟨w0, n, r0, rfl⟩ : ∃ a b r, ws = a :: b :: r := by
      rw [List.length_map] at h1
      match ws, h1 with
      | [], h => exact absurd (by show (0 : Int) < 2; decide) h
      | [_], h => exact absurd (by show (1 : Int) < 2; decide) h
      | a :: b :: r, _ => exact ⟨a, b, r, rfl⟩
    have ke : okDo isName itemOf R (w0 :: n :: r0) = (decide (r0.length ≤ 6) && isName n && (doItems itemOf R r0 []).isSome) := rfl
    have hln := x.el n (by simp)
    walk_at "rd"
    refine ⟨Or.inl (SqL.of x.at_), ?_⟩
    walk_at "rd"
    refine x_D (fun h2 => ?_) (fun h2 => ?_)
    · walk_at "rd"
      refine k0 ?_ _ Fro.refl
      rw [List.length_map] at h2
      simp only [List.length_cons] at h2
      rw [ke, decide_eq_false (show ¬ r0.length ≤ 6 by omega)]
      rfl
    have h6 : r0.length ≤ 6 := by
      rw [List.length_map] at h2
      simp only [List.length_cons] at h2
      omega
    walk_at "rd"
    refine x_ixL (SqL.of x.at_) (atI_nat (j := 1) rfl) ?_
    walk_at "rd"
    refine ⟨n, rfl, hln, ?_⟩
    walk_at "rd"
    refine x_NB (fun h3 => ?_) (fun h3 => ?_)
    · walk_at "rd"
      refine k0 ?_ _ Fro.refl
      rw [ke, h3]
      simp
    rw [decide_eq_true h6, h3] at ke
    walk_at "rd"
    intro d nd
    generalize eH : upd H d _ = H1
    have s1 : Same H H1 := eH ▸ same_upd nd
    have d1 : H1 d = some (.dK (kS V.str [])) := eH ▸ upd_same
    have hd : ∀ i < 12, d ≠ ad i := r.fresh nd
    clear eH
    have sqa : SqL K H1 a ((w0 :: n :: r0).map V.str) := SqL.of (s1 _ _ x.at_)
    walk_at "rd"
    refine x_slL sqa fun l nl => ?_
    generalize eH : upd H1 l _ = H2
    have s2 : Same H1 H2 := eH ▸ same_upd nl
    have l2 : H2 l = some (.lst (r0.map V.str)) := by
      rw [← eH, upd_same]
      exact congrArg (fun z => some (HO.lst z)) (cutV_from _ 2)
    have hld : l ≠ d := Ne.symm (ne_of_none d1 nl)
    have d2 := s2 _ _ d1
    have s12 := s1.trans s2
    clear eH sqa
    walk_at "rd"
    refine ⟨⟨_, SqL.of l2⟩, for_it (walk_list (xs := r0.map V.str)) (fun i σ H' => Hold (∃ (acc : List (Str × Str)) (x4 x5 : Option V), σ = [some (V.ref p), some (V.ref a), some (V.int line), some (V.ref d), x4, x5] ∧ H' d = some (.dK (kS V.str acc)) ∧ acc.length ≤ i ∧ doItems itemOf R r0 [] = doItems itemOf R (r0.drop i) acc ∧ ∀ b o, H2 b = some o → b ≠ d → H' b = some o))
      ⟨[], none, none, rfl, d2, Nat.le_refl _, rfl, fun _ _ e _ => e⟩ (fun i σ H' _ ⟨_, _, _, _, _, _, _, hfr⟩ => SqL.of (hfr _ _ l2 hld)) ?_ ?_⟩
    · rintro i v σ H' H'' hi ⟨acc, x4, x5, rfl, hda, hal, hdo, hfr⟩ ⟨rfl, hv⟩
      rw [List.getElem?_map] at hv
      obtain ⟨wd, hwd, rfl⟩ := Option.map_eq_some_iff.mp hv
      rw [drop_at hwd] at hdo
      have hwl := x.el wd (List.mem_cons_of_mem _ (List.mem_cons_of_mem _ (List.mem_of_getElem? hwd)))
      have sH : Same H H'' := fun b o e => hfr _ _ (s12 _ _ e) (ne_of_none e nd)
      have hil : i < r0.length := by rw [List.length_map] at hi; exact hi
      walk_at "rd"
      refine ⟨wd, rfl, hwl, fun e H3 s3 => ?_, fun m v q H3 e s3 eq => ?_⟩
      · walk_at "rd"
        refine x_D (fun _ => ?_) (fun h => absurd rfl h)
        walk_at "rd"
        refine k0 ?_ _ (Fro.of (sH.trans s3))
        rw [ke, hdo]
        unfold doItems
        rw [e]
        rfl
      have r3 := r.same (sH.trans s3)
      have f3 : Fro p ad H H3 := Fro.of (sH.trans s3)
      have hd3 := s3 _ _ hda
      walk_at "rd"
      refine x_D (fun h => by cases h) (fun _ => ?_)
      walk_at "rd"
      refine x_ixT (SqT.of eq) (atI_nat (j := 0) rfl) ?_
      walk_at "rd"
      refine r_dninS r3.t0 ?_
      walk_at "rd"
      refine x_NB (fun h4 => ?_) (fun h4 => ?_)
      · walk_at "rd"
        refine k0 ?_ _ f3
        rw [ke, hdo]
        have hmn : look R.modes m = none := by simpa using h4
        unfold doItems
        simp only [e, hmn]
        rfl
      obtain ⟨dm, hdm⟩ := Option.isSome_iff_exists.mp h4
      walk_at "rd"
      refine x_ixT (SqT.of eq) (atI_nat (j := 0) rfl) ?_
      walk_at "rd"
      refine r_dinS hd3 ?_
      walk_at "rd"
      refine x_B (fun h5 => ?_) (fun h5 => ?_)
      · walk_at "rd"
        refine k0 ?_ _ f3
        rw [ke, hdo]
        unfold doItems
        simp only [e, hdm, h5, if_true]
        rfl
      walk_at "rd"
      refine x_ixT (SqT.of eq) (atI_nat (j := 1) rfl) ?_
      walk_at "rd"
      refine x_ND (fun h6 => ?_) (fun h6 => ?_)
      · have hv : decide (v = ("?" : Str)) = false := decide_eq_false fun z => h6 (by rw [z])
        walk_at "rd"
        refine x_ixT (SqT.of eq) (atI_nat (j := 1) rfl) ?_
        walk_at "rd"
        refine x_ixT (SqT.of eq) (atI_nat (j := 0) rfl) ?_
        walk_at "rd"
        refine r_getS r3.t0 hdm ?_
        walk_at "rd"
        refine r_dninS (r3.ne.mo _ (look_mem hdm)).1 ?_
        walk_at "rd"
        refine x_NB (fun h7 => ?_) (fun h7 => ?_)
        · walk_at "rd"
          refine k0 ?_ _ f3
          rw [ke, hdo]
          unfold doItems
          simp only [e, hdm, h5, hv, h7]
          rfl
        · walk_at "rd"
          refine x_ixT (SqT.of eq) (atI_nat (j := 1) rfl) ?_
          walk_at "rd"
          refine x_ixT (SqT.of eq) (atI_nat (j := 0) rfl) ?_
          walk_at "rd"
          refine r_putGS v hd3 (by omega) ?_
          walk_at "rd"
          refine ⟨putG acc m v, _, _, rfl, upd_same, Nat.le_trans (putG_len ..) (by omega), ?_, fun b o e n => by rw [upd_ne n]; exact s3 _ _ (hfr _ _ e n)⟩
          rw [hdo]
          conv => lhs; unfold doItems
          simp only [e, hdm, h5, hv, h7]
          rfl
      · have hv : decide (v = ("?" : Str)) = true := decide_eq_true (V.str.inj h6)
        walk_at "rd"
        refine x_ixT (SqT.of eq) (atI_nat (j := 1) rfl) ?_
        walk_at "rd"
        refine x_ixT (SqT.of eq) (atI_nat (j := 0) rfl) ?_
        walk_at "rd"
        refine r_putGS v hd3 (by omega) ?_
        walk_at "rd"
        refine ⟨putG acc m v, _, _, rfl, upd_same, Nat.le_trans (putG_len ..) (by omega), ?_, fun b o e n => by rw [upd_ne n]; exact s3 _ _ (hfr _ _ e n)⟩
        rw [hdo]
        conv => lhs; unfold doItems
        simp only [e, hdm, h5, hv]
        rfl
    · rintro σ H' ⟨acc, x4, x5, rfl, hda, hal, hdo, hfr⟩
      have sH : Same H H' := fun b o e => hfr _ _ (s12 _ _ e) (ne_of_none e nd)
      have r3 := r.same sH
      rw [List.length_map, List.drop_of_length_le (Nat.le_refl _)] at hdo
      rw [show doItems itemOf R [] acc = some acc from rfl] at hdo
      walk_at "rd"
      refine r_putGI (f := fun x : Addr × List (Str × Str) => V.ref x.1) (d, acc) r3.t9 (lt5 sm.s9) ?_
      have r4 : RdAt C _ p ad { R with works := putG R.works line (d, acc) } := r3.put (o := .dK (kI (fun x : Addr × List (Str × Str) => V.ref x.1) (putG R.works line (d, acc)))) 9 (by decide) rfl rfl ⟨r3.ne.mo, r3.ne.os, fun x hx => by
        rcases mem_putG hx with e | hx
        · subst e
          exact ⟨hda, hd⟩
        · exact r3.ne.wo x hx⟩
      walk_at "rd"
      have e3 : stDo itemOf R line d (w0 :: n :: r0) = { R with works := putG R.works line (d, acc) } := by
        unfold stDo
        simp only [hdo]
      refine k1 ?_ d _ ((Fro.of sH).trans (Fro.put (by decide))) (by show RdAt C _ p ad (stDo itemOf R line d (w0 :: n :: r0)); rw [e3]; exact r4)
      rw [ke, hdo]
      rfl
end
end MP
end
section
open PySem L2 MPX MP
local macro_rules | `(tactic| walk_at "rd1") => `(tactic| first
  | with_reducible refine x_seq ?_
  | with_reducible refine x_next ?_
  | with_reducible refine x_ret ?_
  | with_reducible refine x_retN ?_
  | with_reducible refine x_ifs ?_
  | with_reducible refine x_asg ?_
  | with_reducible refine x_drop ?_
  | with_reducible refine x_name ?_
  | ((with_reducible refine' x_var ?vv ?_); (case vv => exact rfl))
  | with_reducible refine x_c ?_
  | with_reducible refine x_op ?_
  | with_reducible refine x_un ?_
  | with_reducible refine x_test ?_
  | with_reducible refine x_tB ?_
  | with_reducible refine x_and ?_
  | with_reducible refine x_or ?_
  | with_reducible refine x_not ?_
  | with_reducible refine x_andV ?_
  | with_reducible refine x_orV ?_
  | with_reducible refine x_notV ?_
  | with_reducible refine x_if ?_
  | with_reducible refine x_nil ?_
  | with_reducible refine x_cons ?_
  | with_reducible refine x_tup ?_
  | with_reducible refine x_lst ?_
  | with_reducible refine x_cb ?_
  | with_reducible refine x_call ?_
  | with_reducible refine x_callS ?_
  | with_reducible refine x_callP ?_
  | with_reducible refine x_mk0 ?_
  | with_reducible refine x_mk1 ?_
  | with_reducible refine x_mk2 ?_
  | with_reducible refine x_make ?_
  | with_reducible refine x_sfld ?_
  | with_reducible refine x_din ?_
  | with_reducible refine x_dnin ?_
  | with_reducible refine x_fldS ?_
  | with_reducible refine x_sl3 ?_
  | ((with_reducible refine' r_rd ?vr ?vt ?vm ?vl ?vq); (case vr => (with_reducible assumption)); (case vt => assumption); (case vm => decide +kernel); (case vl => exact rfl))
  | with_reducible refine x_m0 ?_
  | with_reducible refine x_m1 ?_
  | with_reducible refine x_bm0 ?_
  | with_reducible refine x_bm ?_
  | with_reducible refine x_par ?_
  | with_reducible refine x_ilist ?_
  | with_reducible refine x_itup ?_
  | with_reducible refine x_istr ?_
  | ((with_reducible show tLc _ _ _ _ _ _ _ _); unfold tLc)
  | ((with_reducible show tFor _ _ _ _ _ _); unfold tFor)
  | ((with_reducible refine' x_eq ?vv ?_); (case vv => exact rfl))
  | ((with_reducible refine' x_ne ?vv ?_); (case vv => exact rfl))
  | with_reducible refine x_rI0 ?_
  | with_reducible refine x_dgetR ?_
  | with_reducible refine x_dputR ?_
  | with_reducible refine x_dnew ?_
  | with_reducible refine x_dget1 ?_
  | with_reducible refine x_dget2 ?_
  | with_reducible refine x_sl ?_
  | with_reducible refine x_nopart ?_
  | with_reducible refine x_part ?_
  | ((with_reducible refine' x_slL ?vv ?_); (case vv => (with_reducible assumption)))
  | with_reducible refine x_disp ?_
  | with_reducible refine x_pcons ?_
  | with_reducible refine x_pnil ?_
  | ((with_reducible refine' x_mod ?vv ?_); (case vv => omega); intro r er hr0 hr1; (try clear er))
  | ((with_reducible refine' x_rI ?vv ?_); (case vv => walk_at "sc"))
  | (with_reducible refine Or.inl (Exists.intro _ (And.intro rfl ?_)))
  | with_reducible refine x_T ?_
  | with_reducible refine x_F ?_
  | ((with_reducible show Exists (α := V) _); (with_reducible apply Exists.intro))
  | ((with_reducible show Exists (α := Bool) _); (with_reducible apply Exists.intro))
  | ((with_reducible show Exists (α := Nat) _); (with_reducible apply Exists.intro))
  | ((with_reducible show Exists (α := Int) _); (with_reducible apply Exists.intro))
  | ((with_reducible show Exists (α := List V) _); (with_reducible apply Exists.intro))
  | ((with_reducible show Exists (α := PySem.Str) _); (with_reducible apply Exists.intro))
  | ((with_reducible show Exists (α := Option V) _); (with_reducible apply Exists.intro))
  | ((with_reducible show Exists (α := Option Int) _); (with_reducible apply Exists.intro))
  | ((with_reducible show Exists (α := List (Key × V)) _); (with_reducible apply Exists.intro))
  | refine And.intro rfl ?_
  | ((with_reducible refine And.intro ?vv ?_); (case vv => (first | (with_reducible assumption) | (show _ ≤ sizeLine; decide) | exact len_ok rfl)))
  | (refine And.intro (Exists.intro _ rfl) ?_))
local macro_rules | `(tactic| walk_at "sc") => `(tactic| first
  | (with_reducible assumption)
  | exact divW (by omega) (by omega)
  | exact mulW (by omega) (by omega)
  | exact Or.inl ⟨by omega, by omega⟩
  | exact Or.inr ⟨by omega, by omega⟩
  | (show (_ : Int) ≠ 0; omega)
  | exact ⟨by decide, by decide, by decide⟩
  | decide)
local macro_rules | `(tactic| walk_at "rd") => `(tactic| repeat walk_at "rd1")
namespace MP
open PySem L2
section
variable {P : Program} {w : World} {K : PySem.W.Frag} {mg : Str → Option Value} {base : Heap} {ts : Nat → Tok} {kw C : Addr}
theorem price_ok {z : Str} (h : isPrice z = true) : PySem.intText? z = some (priceOf z) ∧ z.length ≤ 31 := by
  unfold isPrice at h
  have h1 := (Bool.and_eq_true_iff.mp h).1
  rw [Bool.not_eq_true', Bool.or_eq_false_iff, Bool.or_eq_false_iff, Bool.or_eq_false_iff] at h1
  obtain ⟨⟨⟨a, b⟩, c⟩, _⟩ := h1
  have h31 : z.length ≤ 31 := by have := of_decide_eq_false b; omega
  exact ⟨price_text (of_decide_eq_false a) h31 (by simpa using c), h31⟩
def sp_read_mode (K : PySem.W.Frag) (C : Addr) : Sp := fun vs H Q _ => ∃ (p : Addr) (ad : Nat → Addr) (R : RdM) (a : Addr) (ws : List Str), vs = [.ref p, .ref a] ∧ RdAt C H p ad R ∧ Sm R ∧ WdAt K H p ad a ws ∧ RdPost C p ad H (okMode isName isPrice priceOf R ws) (fun q => stMode isName isPrice priceOf R q ws) Q
theorem ok_read_mode {f : Addr} {fd : FuncData} (F : Fun K "read_mode" "read_mode" s_read_mode f fd) (T : ReadTxt K mg ts C) (c_is_name : Cal P w K mg base 2 "is_name" sp_is_name) (c_is_price : Cal P w K mg base 2 "is_price" sp_is_price) : FnOk P w K mg base CX0 3 f fd P_read_mode (sp_read_mode K C) := by
  refine F.ok sc_read_mode (fun vs H Q E h => ?_) (fun cdv A outer s H vs Q E hr h => ?_)
  · obtain ⟨p, ad, R, a, ws, rfl, _⟩ := h
    rfl
  · obtain ⟨p, ad, R, a, ws, rfl, r, sm, x, k0, k1⟩ := h
    have hu := hu_of hr
    have hu0 : _ < cLine := Nat.lt_of_succ_lt hu
    have Tr := T.rd
    refine ⟨_, (pss_cons (ps_set (i := 2) sc_read_mode.nd rfl (Or.inl rfl) (pe_op op_sub (pe_callB call_len_seq (by rfl) T.b_len (by decide +kernel) (pa_cons (pv 1) pa_nil)) pe_int))
      (pss_cons (ps_if (PW.pt (pw_or (pt_cmpR op_lt (pv 2) pe_int (nomark _)) (pw_or (pt_cmpR op_ne (pe_op op_mulW (pe_op op_fdivW (pv 2) pe_int) pe_int) (pv 2) (nomark _)) (pw_or (pt_cmpR op_gt (pv 2) (pe_op op_mulW pe_int (pe_glob (v := V.int _) rfl T.g_MOST_VALUES ⟨_, rfl⟩)) (nomark _)) (pw_or1 (pt_cmpR (op_neD0 hu0) (pe_fld (pv 0) rfl) pe_dnewK (nomark _))))))) (pss_one (ps_ret pe_bl)) pss_nil)
      (pss_cons (ps_if (PW.pt (pw_or (pt_not (pt_val (pe_cc c_is_name hr (by decide) rfl (pa_cons (pe_ix ix_list (pv 1) pe_int (fun _ _ => rfl)) pa_nil)))) (pw_or (pt_cmp (pc_din hu (pe_ix ix_list (pv 1) pe_int (fun _ _ => rfl)) (pe_fld (pv 0) rfl))) (pw_or1 (pt_cmpR op_eq (pe_callB call_lenD (by rfl) T.b_len (by decide +kernel) (pa_cons (pe_fld (pv 0) rfl) pa_nil)) (pe_glob (v := V.int _) rfl T.g_MOST_MODES ⟨_, rfl⟩) (nomark _)))))) (pss_one (ps_ret pe_bl)) pss_nil)
      (pss_cons (ps_set (i := 3) sc_read_mode.nd rfl (Or.inl rfl) pe_dnewK)
      (pss_cons (ps_for PassesOwn.never rfl (pi_zip (by rfl) T.b_zip (pa_cons (pe_slice3 (pv 1) (po_some pe_int) po_none (po_some pe_int)) (pa_cons (pe_slice3 (pv 1) (po_some pe_int) po_none (po_some pe_int)) pa_nil))) (pg_tup rfl (pgs_cons (pg_name (i := 4) sc_read_mode.nd rfl (Or.inl rfl)) (pgs_cons (pg_name (i := 5) sc_read_mode.nd rfl (Or.inl rfl)) pgs_nil)))
      (pss_cons (ps_if (PW.pt (pw_or (pt_not (pt_val (pe_cc c_is_name hr (by decide) rfl (pa_cons (pv 4) pa_nil)))) (pw_or (pt_cmp (pc_din hu (pv 4) (pv 3))) (pw_or1 (pt_not (pt_val (pe_cc c_is_price hr (by decide) rfl (pa_cons (pv 5) pa_nil)))))))) (pss_one (ps_ret pe_bl)) pss_nil)
      (pss_one (ps_dput hu (pv 3) (pv 4) (pe_callTy call_int_str (by rfl) T.b_int (by decide +kernel) (pa_cons (pv 5) pa_nil)) rfl))))
      (pss_cons (ps_dput hu (pe_fld (pv 0) rfl) (pe_ix ix_list (pv 1) pe_int (fun _ _ => rfl)) (pv 3) rfl)
      (pss_one (ps_ret pe_bl)))))))), ?_⟩
    show tSeq _ _ _ [some (V.ref p), some (V.ref a), none, none, none, none] H
    walk_at "rd"
    refine ⟨Or.inl (SqL.of x.at_), ?_⟩
    walk_at "rd"
    rw [List.length_map]
    refine x_D (fun h1 => ?_) (fun h1 => ?_)
    · walk_at "rd"
      refine k0 ?_ _ Fro.refl
      match ws, h1 with
      | [], _ => rfl
      | [_], _ => rfl
      | _ :: n :: r0, h =>
        show (decide (2 ≤ r0.length) && _ && _ && _ && _ && _ && _ && _) = false
        simp only [List.length_cons] at h
        rw [decide_eq_false (by omega)]
        rfl
    obtain ⟨w0, n, r0, rfl⟩ : ∃ a b r, ws = a :: b :: r := by
      match ws, h1 with
      | [], h => exact absurd (by show ((0 : Nat) : Int) - 2 < 2; decide) h
      | [_], h => exact absurd (by show ((1 : Nat) : Int) - 2 < 2; decide) h
      | a :: b :: r, _ => exact ⟨a, b, r, rfl⟩
    have ke : okMode isName isPrice priceOf R (w0 :: n :: r0) = (decide (2 ≤ r0.length) && decide (r0.length % 2 = 0) && decide (r0.length ≤ 12) && R.routines.isEmpty && isName n && !(look R.modes n).isSome && !decide (R.modes.length = 6) && (modeItems isName isPrice priceOf r0 []).isSome) := rfl
    have hm : (((w0 :: n :: r0).length : Nat) : Int) - 2 = (r0.length : Int) := by simp only [List.length_cons]; omega
    rw [hm] at h1 ⊢
    rw [decide_eq_true (show 2 ≤ r0.length by omega)] at ke
    have hln := x.el n (by simp)
    walk_at "rd"
    have hlen : r0.length < 10000 := by have := x.len; simp only [List.length_cons] at this; omega
    refine x_rI (mulW (by omega) (by decide)) ?_
    walk_at "rd"
    refine x_ND (fun h2 => ?_) (fun h2 => ?_)
    · walk_at "rd"
      refine k0 ?_ _ Fro.refl
      rw [ke, decide_eq_false (show ¬ r0.length % 2 = 0 from fun z => h2 (congrArg V.int (by omega)))]
      simp
    have h2' : r0.length % 2 = 0 := by have := V.int.inj h2; omega
    rw [decide_eq_true h2'] at ke
    walk_at "rd"
    refine x_D (fun h3 => ?_) (fun h3 => ?_)
    · walk_at "rd"
      refine k0 ?_ _ Fro.refl
      rw [ke, decide_eq_false (show ¬ r0.length ≤ 12 by omega)]
      simp
    have h3' : r0.length ≤ 12 := by omega
    rw [decide_eq_true h3'] at ke
    walk_at "rd"
    intro e ne
    generalize eH : upd H e _ = H1
    have s1 : Same H H1 := eH ▸ same_upd ne
    have e1 : H1 e = some (.dK []) := eH ▸ upd_same
    clear eH
    replace r := r.same s1
    replace x := x.same s1
    have f1 : Fro p ad H H1 := Fro.of s1
    refine x_neD0 r.t2 e1 ?_
    rw [kS_nil]
    walk_at "rd"
    refine x_NB (fun h4 => ?_) (fun h4 => ?_)
    · walk_at "rd"
      refine k0 ?_ _ f1
      rw [ke, h4]
      simp
    rw [h4] at ke
    walk_at "rd"
    refine x_ixL (SqL.of x.at_) (atI_nat (j := 1) rfl) ?_
    walk_at "rd"
    refine ⟨n, rfl, hln, ?_⟩
    walk_at "rd"
    refine x_NB (fun h5 => ?_) (fun h5 => ?_)
    · walk_at "rd"
      refine k0 ?_ _ f1
      rw [ke, h5]
      simp
    rw [h5] at ke
    walk_at "rd"
    refine x_ixL (SqL.of x.at_) (atI_nat (j := 1) rfl) ?_
    walk_at "rd"
    refine r_dinS r.t0 ?_
    walk_at "rd"
    refine x_B (fun h6 => ?_) (fun h6 => ?_)
    · walk_at "rd"
      refine k0 ?_ _ f1
      rw [ke, h6]
      simp
    rw [h6] at ke
    have t0 := r.t0
    walk_at "rd"
    rw [kS_len]
    refine x_D (fun h7 => ?_) (fun h7 => ?_)
    · walk_at "rd"
      refine k0 ?_ _ f1
      rw [ke, decide_eq_true (show R.modes.length = 6 by have := V.int.inj h7; omega)]
      simp
    rw [decide_eq_false (show ¬ R.modes.length = 6 from fun z => h7 (by rw [z]; rfl))] at ke
    replace ke : okMode isName isPrice priceOf R (w0 :: n :: r0) = (modeItems isName isPrice priceOf r0 []).isSome := by rw [ke]; simp
    clear h1 h2 h3 h7 hm
    walk_at "rd"
    intro d nd
    generalize eH : upd H1 d _ = H2
    have s2 : Same H1 H2 := eH ▸ same_upd nd
    have d2 : H2 d = some (.dK (kS V.int [])) := eH ▸ upd_same
    have hd : ∀ i < 12, d ≠ ad i := r.fresh nd
    clear eH
    have sqa : SqL K H2 a ((w0 :: n :: r0).map V.str) := SqL.of (s2 _ _ x.at_)
    walk_at "rd"
    obtain ⟨pk1, pk2, pl1, pl2⟩ := pick_ev (V.str w0) (V.str n) (r0.map V.str) (by rw [List.length_map]; exact h3') (by rw [List.length_map]; exact h2')
    rw [List.length_map] at pl1 pl2
    have hhalf : r0.length / 2 ≤ 6 := by omega
    have hbig := big5
    refine x_izip ?_
    walk_at "rd"
    refine r_sl3 sqa (by decide) pk1 (by omega) fun H3 l1 s3 n1 a1 => ?_
    walk_at "rd"
    refine r_sl3 (s3.seq sqa) (by decide) pk2 (by omega) fun H4 l2 s4 n2 a2 => ?_
    have s14 := (s2.trans s3).trans s4
    have d4 : H4 d = _ := s4 _ _ (s3 _ _ d2)
    have nd1 : l1 ≠ d := Ne.symm (ne_of_none d2 n1)
    have nd2 : l2 ≠ d := Ne.symm (ne_of_none (s3 _ _ d2) n2)
    replace a1 := s4 _ _ a1
    walk_at "rd"
    refine ⟨SqL.of a1, SqL.of a2, for_it (walk_zip (n := r0.length / 2) (xs := ev (r0.map V.str)) (ys := ev (r0.map V.str).tail) (by rw [pl1, pl2, Nat.min_self]))
      (fun i σ H' => Hold (∃ (acc : List (Str × Int)) (x4 x5 : Option V), σ = [some (V.ref p), some (V.ref a), some (V.int r0.length), some (V.ref d), x4, x5] ∧ H' d = some (.dK (kS V.int acc)) ∧ acc.length ≤ i ∧ modeItems isName isPrice priceOf r0 [] = modeItems isName isPrice priceOf (r0.drop (2 * i)) acc ∧ ∀ b o, H4 b = some o → b ≠ d → H' b = some o))
      ⟨[], none, none, rfl, d4, Nat.le_refl _, rfl, fun _ _ e _ => e⟩ (fun i σ H' _ ⟨_, _, _, _, _, _, _, hfr⟩ => ⟨SqL.of (hfr _ _ a1 nd1), SqL.of (hfr _ _ a2 nd2)⟩) ?_ ?_⟩
    · rintro i v σ H' H'' hi ⟨acc, x4, x5, rfl, hda, hal, hmo, hfr⟩ ⟨T1, vx, vy, rfl, nT, rfl, hx, hy⟩
      replace hx : (ev (r0.map V.str))[i]? = some vx := hx
      replace hy : (ev (r0.map V.str).tail)[i]? = some vy := hy
      rw [ev_at, List.getElem?_map] at hx
      rw [ev_at, List.getElem?_tail, List.getElem?_map] at hy
      obtain ⟨nv, hnv, rfl⟩ := Option.map_eq_some_iff.mp hx
      obtain ⟨pr, hpr, rfl⟩ := Option.map_eq_some_iff.mp hy
      rw [drop_at hnv, drop_at hpr] at hmo
      have hlv := x.el nv (List.mem_cons_of_mem _ (List.mem_cons_of_mem _ (List.mem_of_getElem? hnv)))
      have hlp := x.el pr (List.mem_cons_of_mem _ (List.mem_cons_of_mem _ (List.mem_of_getElem? hpr)))
      have sH : Same H1 (upd H' T1 (.tup [V.str nv, V.str pr])) := fun b o e => upd_new (hfr _ _ (s14 _ _ e) (ne_of_none e nd)) nT
      have fH : Fro p ad H _ := f1.trans (Fro.of sH)
      have hd3 : upd H' T1 (.tup [V.str nv, V.str pr]) d = _ := upd_new hda nT
      refine x_gtup2 upd_same ?_
      walk_at "rd"
      refine ⟨nv, rfl, hlv, ?_⟩
      walk_at "rd"
      refine x_NB (fun h8 => ?_) (fun h8 => ?_)
      · walk_at "rd"
        refine k0 ?_ _ fH
        rw [ke, hmo]
        unfold modeItems
        rw [h8]
        rfl
      walk_at "rd"
      refine r_dinS hd3 ?_
      walk_at "rd"
      refine x_B (fun h9 => ?_) (fun h9 => ?_)
      · walk_at "rd"
        refine k0 ?_ _ fH
        rw [ke, hmo]
        unfold modeItems
        rw [h8, h9]
        rfl
      walk_at "rd"
      refine ⟨pr, rfl, hlp, ?_⟩
      walk_at "rd"
      refine x_NB (fun h10 => ?_) (fun h10 => ?_)
      · walk_at "rd"
        refine k0 ?_ _ fH
        rw [ke, hmo]
        unfold modeItems
        rw [h8, h9, h10]
        rfl
      walk_at "rd"
      refine ⟨(price_ok h10).1, by have := (price_ok h10).2; omega, ?_⟩
      walk_at "rd"
      refine r_putGS (priceOf pr) hd3 (by omega) ?_
      walk_at "rd"
      refine ⟨putG acc nv (priceOf pr), _, _, rfl, upd_same, Nat.le_trans (putG_len ..) (by omega), ?_, fun b o e n => by rw [upd_ne n]; exact upd_new (hfr _ _ e n) nT⟩
      rw [hmo]
      conv => lhs; unfold modeItems
      rw [h8, h9, h10]
      rfl
    · rintro σ H' ⟨acc, x4, x5, rfl, hda, hal, hmo, hfr⟩
      have sH : Same H1 H' := fun b o e => hfr _ _ (s14 _ _ e) (ne_of_none e nd)
      have r3 := r.same sH
      have x3 := x.same sH
      rw [List.drop_of_length_le (by omega)] at hmo
      rw [show modeItems isName isPrice priceOf [] acc = some acc from rfl] at hmo
      walk_at "rd"
      refine x_ixL (SqL.of x3.at_) (atI_nat (j := 1) rfl) ?_
      walk_at "rd"
      refine r_putGS (f := fun x : Addr × List (Str × Int) => V.ref x.1) (d, acc) r3.t0 (lt5 sm.s0) ?_
      have r4 : RdAt C _ p ad { R with modes := putG R.modes n (d, acc) } := r3.put (o := .dK (kS (fun x : Addr × List (Str × Int) => V.ref x.1) (putG R.modes n (d, acc)))) 0 (by decide) rfl rfl ⟨fun x hx => by
        rcases mem_putG hx with e | hx
        · subst e
          exact ⟨hda, hd⟩
        · exact r3.ne.mo x hx, r3.ne.os, r3.ne.wo⟩
      walk_at "rd"
      have e3 : stMode isName isPrice priceOf R d (w0 :: n :: r0) = { R with modes := putG R.modes n (d, acc) } := by
        unfold stMode
        simp only [hmo]
      refine k1 ?_ d _ ((f1.trans (Fro.of sH)).trans (Fro.put (by decide))) (by show RdAt C _ p ad (stMode isName isPrice priceOf R d (w0 :: n :: r0)); rw [e3]; exact r4)
      rw [ke, hmo]
      rfl
end
end MP
end
section
open PySem L2 MPX MP
local macro_rules | `(tactic| walk_at "rd1") => `(tactic| first
  | with_reducible refine x_seq ?_
  | with_reducible refine x_next ?_
  | with_reducible refine x_ret ?_
  | with_reducible refine x_retN ?_
  | with_reducible refine x_ifs ?_
  | with_reducible refine x_asg ?_
  | with_reducible refine x_drop ?_
  | with_reducible refine x_name ?_
  | ((with_reducible refine' x_var ?vv ?_); (case vv => exact rfl))
  | with_reducible refine x_c ?_
  | with_reducible refine x_op ?_
  | with_reducible refine x_un ?_
  | with_reducible refine x_test ?_
  | with_reducible refine x_tB ?_
  | with_reducible refine x_and ?_
  | with_reducible refine x_or ?_
  | with_reducible refine x_not ?_
  | with_reducible refine x_andV ?_
  | with_reducible refine x_orV ?_
  | with_reducible refine x_notV ?_
  | with_reducible refine x_if ?_
  | with_reducible refine x_nil ?_
  | with_reducible refine x_cons ?_
  | with_reducible refine x_tup ?_
  | with_reducible refine x_lst ?_
  | with_reducible refine x_cb ?_
  | with_reducible refine x_call ?_
  | with_reducible refine x_callS ?_
  | with_reducible refine x_callP ?_
  | with_reducible refine x_mk0 ?_
  | with_reducible refine x_mk1 ?_
  | with_reducible refine x_mk2 ?_
  | with_reducible refine x_make ?_
  | with_reducible refine x_sfld ?_
  | with_reducible refine x_din ?_
  | with_reducible refine x_dnin ?_
  | with_reducible refine x_fldS ?_
  | with_reducible refine x_sl3 ?_
  | ((with_reducible refine' r_rd ?vr ?vt ?vm ?vl ?vq); (case vr => (with_reducible assumption)); (case vt => assumption); (case vm => decide +kernel); (case vl => exact rfl))
  | with_reducible refine x_m0 ?_
  | with_reducible refine x_m1 ?_
  | with_reducible refine x_bm0 ?_
  | with_reducible refine x_bm ?_
  | with_reducible refine x_par ?_
  | with_reducible refine x_ilist ?_
  | with_reducible refine x_itup ?_
  | with_reducible refine x_istr ?_
  | ((with_reducible show tLc _ _ _ _ _ _ _ _); unfold tLc)
  | ((with_reducible show tFor _ _ _ _ _ _); unfold tFor)
  | ((with_reducible refine' x_eq ?vv ?_); (case vv => exact rfl))
  | ((with_reducible refine' x_ne ?vv ?_); (case vv => exact rfl))
  | with_reducible refine x_rI0 ?_
  | with_reducible refine x_dgetR ?_
  | with_reducible refine x_dputR ?_
  | with_reducible refine x_dnew ?_
  | with_reducible refine x_dget1 ?_
  | with_reducible refine x_dget2 ?_
  | with_reducible refine x_sl ?_
  | with_reducible refine x_nopart ?_
  | with_reducible refine x_part ?_
  | ((with_reducible refine' x_slL ?vv ?_); (case vv => (with_reducible assumption)))
  | with_reducible refine x_disp ?_
  | with_reducible refine x_pcons ?_
  | with_reducible refine x_pnil ?_
  | ((with_reducible refine' x_mod ?vv ?_); (case vv => omega); intro r er hr0 hr1; (try clear er))
  | ((with_reducible refine' x_rI ?vv ?_); (case vv => walk_at "sc"))
  | (with_reducible refine Or.inl (Exists.intro _ (And.intro rfl ?_)))
  | with_reducible refine x_T ?_
  | with_reducible refine x_F ?_
  | ((with_reducible show Exists (α := V) _); (with_reducible apply Exists.intro))
  | ((with_reducible show Exists (α := Bool) _); (with_reducible apply Exists.intro))
  | ((with_reducible show Exists (α := Nat) _); (with_reducible apply Exists.intro))
  | ((with_reducible show Exists (α := Int) _); (with_reducible apply Exists.intro))
  | ((with_reducible show Exists (α := List V) _); (with_reducible apply Exists.intro))
  | ((with_reducible show Exists (α := PySem.Str) _); (with_reducible apply Exists.intro))
  | ((with_reducible show Exists (α := Option V) _); (with_reducible apply Exists.intro))
  | ((with_reducible show Exists (α := Option Int) _); (with_reducible apply Exists.intro))
  | ((with_reducible show Exists (α := List (Key × V)) _); (with_reducible apply Exists.intro))
  | refine And.intro rfl ?_
  | ((with_reducible refine And.intro ?vv ?_); (case vv => (first | (with_reducible assumption) | (show _ ≤ sizeLine; decide) | exact len_ok rfl)))
  | (refine And.intro (Exists.intro _ rfl) ?_))
local macro_rules | `(tactic| walk_at "sc") => `(tactic| first
  | (with_reducible assumption)
  | exact divW (by omega) (by omega)
  | exact mulW (by omega) (by omega)
  | exact Or.inl ⟨by omega, by omega⟩
  | exact Or.inr ⟨by omega, by omega⟩
  | (show (_ : Int) ≠ 0; omega)
  | exact ⟨by decide, by decide, by decide⟩
  | decide)
local macro_rules | `(tactic| walk_at "rd") => `(tactic| repeat walk_at "rd1")
namespace MP
open PySem L2
section
variable {P : Program} {w : World} {K : PySem.W.Frag} {mg : Str → Option Value} {base : Heap} {ts : Nat → Tok} {kw C : Addr}
def sp_read_inside (K : PySem.W.Frag) (C : Addr) : Sp := fun vs H Q _ => ∃ (p : Addr) (ad : Nat → Addr) (R : RdM) (a : Addr) (w0 : Str) (r0 : List Str) (line : Int), vs = [.ref p, .ref a, .int line] ∧ RdAt C H p ad R ∧ Sm R ∧ Sm2 R ∧ BlkT R ∧ R.owner.isSome = true ∧ WdAt K H p ad a (w0 :: r0) ∧ RdPost C p ad H (okIns isName itemOf R (w0 :: r0)) (fun q => stIns itemOf R line q (w0 :: r0)) Q
theorem ok_read_inside {f : Addr} {fd : FuncData} (F : Fun K "read_inside" "read_inside" s_read_inside f fd) (T : ReadTxt K mg ts C) (c_is_name : Cal P w K mg base 2 "is_name" sp_is_name) (c_read_do : Cal P w K mg base 4 "read_do" (sp_read_do K C)) (c_read_end : Cal P w K mg base 1 "read_end" (sp_read_end C))
    (c_read_or : Cal P w K mg base 1 "read_or" (sp_read_or C)) (c_read_leave : Cal P w K mg base 1 "read_leave" (sp_read_leave C)) (c_read_block : Cal P w K mg base 1 "read_block" (sp_read_block C)) : FnOk P w K mg base CX0 5 f fd P_read_inside (sp_read_inside K C) := by
  refine F.ok sc_read_inside (fun vs H Q E h => ?_) (fun cdv A outer s H vs Q E hr h => ?_)
  · obtain ⟨p, ad, R, a, w0, r0, line, rfl, _⟩ := h
    rfl
  · obtain ⟨p, ad, R, a, w0, r0, line, rfl, r, sm, sm2, bt, ho, x, k⟩ := h
    have hu := hu_of hr
    have Tr := T.rd
    refine ⟨_, (pss_cons (ps_set (i := 3) sc_read_inside.nd rfl (Or.inl rfl) (pe_ix ix_list (pv 1) pe_int (fun _ _ => rfl)))
      (pss_cons (ps_if (pt_cmpR op_eq (pv 3) pe_str (nomark _)) (pss_one (ps_ret (pe_cc c_read_do hr (by decide) rfl (pa_cons (pv 0) (pa_cons (pv 1) (pa_cons (pv 2) pa_nil)))))) pss_nil)
      (pss_cons (ps_if (pt_cmpR op_eq (pv 3) pe_str (nomark _)) (pss_cons (ps_if (PW.pt (pw_or (pt_cmpR op_ne (pe_callB call_len_seq (by rfl) T.b_len (by decide +kernel) (pa_cons (pv 1) pa_nil)) pe_int (nomark _)) (pw_or (pt_not (pt_val (pe_cc c_is_name hr (by decide) rfl (pa_cons (pe_ix ix_list (pv 1) pe_int (fun _ _ => rfl)) pa_nil)))) (pw_or1 (pt_cmpR op_eq (pe_ix ix_list (pv 1) pe_int (fun _ _ => rfl)) pe_str (nomark _)))))) (pss_one (ps_ret pe_bl)) pss_nil)
      (pss_cons (ps_dput hu (pe_fld (pv 0) rfl) (pv 2) (pe_ix ix_list (pv 1) pe_int (fun _ _ => rfl)) rfl)
      (pss_one (ps_ret pe_bl)))) pss_nil)
      (pss_cons (ps_if (pt_cmpR op_ne (pe_callB call_len_seq (by rfl) T.b_len (by decide +kernel) (pa_cons (pv 1) pa_nil)) pe_int (nomark _)) (pss_one (ps_ret pe_bl)) pss_nil)
      (pss_cons (ps_if (pt_cmpR op_eq (pv 3) pe_str (nomark _)) (pss_cons (ps_expr (pe_cc c_read_end hr (by decide) rfl (pa_cons (pv 0) (pa_cons (pv 2) pa_nil))))
      (pss_one (ps_ret pe_bl))) pss_nil)
      (pss_cons (ps_if (pt_cmpR op_eq (pv 3) pe_str (nomark _)) (pss_one (ps_ret (pe_cc c_read_or hr (by decide) rfl (pa_cons (pv 0) (pa_cons (pv 2) pa_nil))))) pss_nil)
      (pss_cons (ps_if (pt_cmpR op_eq (pv 3) pe_str (nomark _)) (pss_one (ps_ret (pe_cc c_read_leave hr (by decide) rfl (pa_cons (pv 0) (pa_cons (pv 2) pa_nil))))) pss_nil)
      (pss_cons (ps_if (pt_cmpR op_in_seq (pv 3) (pe_tup (pa_cons pe_str (pa_cons pe_str (pa_cons pe_str pa_nil)))) rfl) (pss_one (ps_ret (pe_cc c_read_block hr (by decide) rfl (pa_cons (pv 0) (pa_cons (pv 3) (pa_cons (pv 2) pa_nil)))))) pss_nil)
      (pss_one (ps_ret (pe_cmpR op_in_seq (pv 3) (pe_tup (pa_cons pe_str (pa_cons pe_str pa_nil))) rfl))))))))))), ?_⟩
    show tSeq _ _ _ [some (V.ref p), some (V.ref a), some (V.int line), none] H
    obtain ⟨o, ho⟩ := Option.isSome_iff_exists.mp ho
    walk_at "rd"
    refine x_ixL (SqL.of x.at_) (atI_nat (j := 0) rfl) ?_
    walk_at "rd"
    refine x_D (fun h1 => ?_) (fun h1 => ?_)
    · have h1 := V.str.inj h1
      walk_at "rd"
      exact ⟨p, ad, R, a, w0 :: r0, line, rfl, r, sm, x, k.of Fro.refl (if_pos h1) (fun q => if_pos h1)⟩
    replace h1 : ¬ w0 = ("do" : Str) := fun z => h1 (by rw [z])
    walk_at "rd"
    refine x_D (fun h2 => ?_) (fun h2 => ?_)
    · have h2 := V.str.inj h2
      have ke : okIns isName itemOf R (w0 :: r0) = okCall isName r0 := (if_neg h1).trans (if_pos h2)
      walk_at "rd"
      refine ⟨Or.inl (SqL.of x.at_), ?_⟩
      walk_at "rd"
      refine x_ND (fun h3 => ?_) (fun h3 => ?_)
      · walk_at "rd"
        refine k.1 (ke.trans ?_) _ Fro.refl
        match r0, h3 with
        | [], _ => rfl
        | [_], h => exact absurd rfl h
        | _ :: _ :: _, _ => rfl
      have h3' : r0.length = 1 := by have := V.int.inj h3; simp only [List.length_map, List.length_cons] at this; omega
      obtain ⟨n, rfl⟩ : ∃ n, r0 = [n] := match r0, h3' with | [n], _ => ⟨n, rfl⟩
      have hln := x.el n (by simp)
      replace ke : okIns isName itemOf R [w0, n] = (isName n && !decide (n = ("main" : Str))) := ke
      walk_at "rd"
      refine x_ixL (SqL.of x.at_) (atI_nat (j := 1) rfl) ?_
      walk_at "rd"
      refine ⟨n, rfl, hln, ?_⟩
      walk_at "rd"
      refine x_NB (fun h4 => ?_) (fun h4 => ?_)
      · walk_at "rd"
        exact k.1 (ke.trans (by rw [h4]; rfl)) _ Fro.refl
      walk_at "rd"
      refine x_ixL (SqL.of x.at_) (atI_nat (j := 1) rfl) ?_
      walk_at "rd"
      refine x_D (fun h5 => ?_) (fun h5 => ?_)
      · walk_at "rd"
        exact k.1 (ke.trans (by rw [decide_eq_true (V.str.inj h5)]; simp)) _ Fro.refl
      walk_at "rd"
      refine x_ixL (SqL.of x.at_) (atI_nat (j := 1) rfl) ?_
      walk_at "rd"
      refine r_putGI n r.t7 (lt5 sm.s7) ?_
      walk_at "rd"
      have e3 : stIns itemOf R line 0 [w0, n] = { R with calls := putG R.calls line n } := (if_neg h1).trans (if_pos h2)
      refine k.2 (ke.trans (by rw [h4, decide_eq_false fun z => h5 (by rw [z])]; rfl)) 0 _ (Fro.put (by decide)) (by show RdAt C _ p ad (stIns itemOf R line 0 [w0, n]); rw [e3]; exact r.put (o := .dK (kI V.str (putG R.calls line n))) 7 (by decide) rfl rfl ⟨r.ne.mo, r.ne.os, r.ne.wo⟩)
    replace h2 : ¬ w0 = ("call" : Str) := fun z => h2 (by rw [z])
    walk_at "rd"
    refine ⟨Or.inl (SqL.of x.at_), ?_⟩
    walk_at "rd"
    refine x_ND (fun h3 => ?_) (fun h3 => ?_)
    · walk_at "rd"
      refine k.1 (((if_neg h1).trans (if_neg h2)).trans (if_pos ?_)) _ Fro.refl
      intro z
      subst z
      exact h3 rfl
    have h3' : r0 = [] := by have := V.int.inj h3; simp only [List.length_map, List.length_cons] at this; exact List.eq_nil_of_length_eq_zero (by omega)
    subst h3'
    have ke : ∀ {b}, _ = b → okIns isName itemOf R [w0] = b := fun {b} (z : _ = b) => (((if_neg h1).trans (if_neg h2)).trans (if_neg (fun z => z rfl))).trans z
    have kt : ∀ {q b}, _ = b → stIns itemOf R line q [w0] = b := fun {q b} (z : _ = b) => ((if_neg h1).trans (if_neg h2)).trans z
    walk_at "rd"
    refine x_D (fun h4 => ?_) (fun h4 => ?_)
    · have h4 := V.str.inj h4
      walk_at "rd"
      refine ⟨p, ad, R, line, o, rfl, r, sm, ho, fun H' f' r' => ?_⟩
      walk_at "rd"
      exact k.2 (ke (if_pos h4)) 0 _ f' (by show RdAt C _ p ad (stIns itemOf R line 0 [w0]); rw [kt (if_pos h4)]; exact r')
    replace h4 : ¬ w0 = ("end" : Str) := fun z => h4 (by rw [z])
    walk_at "rd"
    refine x_D (fun h5 => ?_) (fun h5 => ?_)
    · have h5 := V.str.inj h5
      walk_at "rd"
      exact ⟨p, ad, R, line, rfl, r, sm, sm2, bt, k.of Fro.refl (ke ((if_neg h4).trans (if_pos h5))) (fun q => kt ((if_neg h4).trans (if_pos h5)))⟩
    replace h5 : ¬ w0 = ("or" : Str) := fun z => h5 (by rw [z])
    walk_at "rd"
    refine x_D (fun h6 => ?_) (fun h6 => ?_)
    · have h6 := V.str.inj h6
      walk_at "rd"
      exact ⟨p, ad, R, line, rfl, r, sm, bt, k.of Fro.refl (ke (((if_neg h4).trans (if_neg h5)).trans (if_pos h6))) (fun q => kt (((if_neg h4).trans (if_neg h5)).trans (if_pos h6)))⟩
    replace h6 : ¬ w0 = ("leave" : Str) := fun z => h6 (by rw [z])
    walk_at "rd"
    intro q1 n1
    have r1 := r.same (same_upd (o := .tup ((["either", "loop", "ever"] : List Str).map V.str)) n1)
    have f1 : Fro p ad H _ := Fro.of (same_upd (o := .tup ((["either", "loop", "ever"] : List Str).map V.str)) n1)
    refine x_inT (xs := (["either", "loop", "ever"] : List Str).map V.str) (SqT.of upd_same) rfl rfl ?_
    walk_at "rd"
    rw [inV_strs]
    refine x_D (fun h7 => ?_) (fun h7 => ?_)
    · walk_at "rd"
      exact ⟨p, ad, R, w0, line, rfl, r1, sm, k.of f1 (ke ((((if_neg h4).trans (if_neg h5)).trans (if_neg h6)).trans (if_pos h7))) (fun q => kt ((((if_neg h4).trans (if_neg h5)).trans (if_neg h6)).trans (if_pos h7)))⟩
    walk_at "rd"
    intro q2 n2
    have r2 := r1.same (same_upd (o := .tup ((["back", "stop"] : List Str).map V.str)) n2)
    have f2 := f1.trans (Fro.of (same_upd (o := .tup ((["back", "stop"] : List Str).map V.str)) n2))
    refine x_inT (xs := (["back", "stop"] : List Str).map V.str) (SqT.of upd_same) rfl rfl ?_
    rw [inV_strs]
    have ke2 : okIns isName itemOf R [w0] = decide (w0 ∈ (["back", "stop"] : List Str)) := ke ((((if_neg h4).trans (if_neg h5)).trans (if_neg h6)).trans (if_neg h7))
    have kt2 : ∀ q, stIns itemOf R line q [w0] = R := fun q => kt ((((if_neg h4).trans (if_neg h5)).trans (if_neg h6)).trans (if_neg h7))
    by_cases h8 : w0 ∈ (["back", "stop"] : List Str)
    · rw [decide_eq_true h8] at ke2 ⊢
      exact k.2 ke2 0 _ f2 (by show RdAt C _ p ad (stIns itemOf R line 0 [w0]); rw [kt2]; exact r2)
    · rw [decide_eq_false h8] at ke2 ⊢
      exact k.1 ke2 _ f2
end
end MP
end
section
open PySem L2 MPX MP
local macro_rules | `(tactic| walk_at "rd1") => `(tactic| first
  | with_reducible refine x_seq ?_
  | with_reducible refine x_next ?_
  | with_reducible refine x_ret ?_
  | with_reducible refine x_retN ?_
  | with_reducible refine x_ifs ?_
  | with_reducible refine x_asg ?_
  | with_reducible refine x_drop ?_
  | with_reducible refine x_name ?_
  | ((with_reducible refine' x_var ?vv ?_); (case vv => exact rfl))
  | with_reducible refine x_c ?_
  | with_reducible refine x_op ?_
  | with_reducible refine x_un ?_
  | with_reducible refine x_test ?_
  | with_reducible refine x_tB ?_
  | with_reducible refine x_and ?_
  | with_reducible refine x_or ?_
  | with_reducible refine x_not ?_
  | with_reducible refine x_andV ?_
  | with_reducible refine x_orV ?_
  | with_reducible refine x_notV ?_
  | with_reducible refine x_if ?_
  | with_reducible refine x_nil ?_
  | with_reducible refine x_cons ?_
  | with_reducible refine x_tup ?_
  | with_reducible refine x_lst ?_
  | with_reducible refine x_cb ?_
  | with_reducible refine x_call ?_
  | with_reducible refine x_callS ?_
  | with_reducible refine x_callP ?_
  | with_reducible refine x_mk0 ?_
  | with_reducible refine x_mk1 ?_
  | with_reducible refine x_mk2 ?_
  | with_reducible refine x_make ?_
  | with_reducible refine x_sfld ?_
  | with_reducible refine x_din ?_
  | with_reducible refine x_dnin ?_
  | with_reducible refine x_fldS ?_
  | with_reducible refine x_sl3 ?_
  | ((with_reducible refine' r_rd ?vr ?vt ?vm ?vl ?vq); (case vr => (with_reducible assumption)); (case vt => assumption); (case vm => decide +kernel); (case vl => exact rfl))
  | with_reducible refine x_m0 ?_
  | with_reducible refine x_m1 ?_
  | with_reducible refine x_bm0 ?_
  | with_reducible refine x_bm ?_
  | with_reducible refine x_par ?_
  | with_reducible refine x_ilist ?_
  | with_reducible refine x_itup ?_
  | with_reducible refine x_istr ?_
  | ((with_reducible show tLc _ _ _ _ _ _ _ _); unfold tLc)
  | ((with_reducible show tFor _ _ _ _ _ _); unfold tFor)
  | ((with_reducible refine' x_eq ?vv ?_); (case vv => exact rfl))
  | ((with_reducible refine' x_ne ?vv ?_); (case vv => exact rfl))
  | with_reducible refine x_rI0 ?_
  | with_reducible refine x_dgetR ?_
  | with_reducible refine x_dputR ?_
  | with_reducible refine x_dnew ?_
  | with_reducible refine x_dget1 ?_
  | with_reducible refine x_dget2 ?_
  | with_reducible refine x_sl ?_
  | with_reducible refine x_nopart ?_
  | with_reducible refine x_part ?_
  | ((with_reducible refine' x_slL ?vv ?_); (case vv => (with_reducible assumption)))
  | with_reducible refine x_disp ?_
  | with_reducible refine x_pcons ?_
  | with_reducible refine x_pnil ?_
  | ((with_reducible refine' x_mod ?vv ?_); (case vv => omega); intro r er hr0 hr1; (try clear er))
  | ((with_reducible refine' x_rI ?vv ?_); (case vv => walk_at "sc"))
  | (with_reducible refine Or.inl (Exists.intro _ (And.intro rfl ?_)))
  | with_reducible refine x_T ?_
  | with_reducible refine x_F ?_
  | ((with_reducible show Exists (α := V) _); (with_reducible apply Exists.intro))
  | ((with_reducible show Exists (α := Bool) _); (with_reducible apply Exists.intro))
  | ((with_reducible show Exists (α := Nat) _); (with_reducible apply Exists.intro))
  | ((with_reducible show Exists (α := Int) _); (with_reducible apply Exists.intro))
  | ((with_reducible show Exists (α := List V) _); (with_reducible apply Exists.intro))
  | ((with_reducible show Exists (α := PySem.Str) _); (with_reducible apply Exists.intro))
  | ((with_reducible show Exists (α := Option V) _); (with_reducible apply Exists.intro))
  | ((with_reducible show Exists (α := Option Int) _); (with_reducible apply Exists.intro))
  | ((with_reducible show Exists (α := List (Key × V)) _); (with_reducible apply Exists.intro))
  | refine And.intro rfl ?_
  | ((with_reducible refine And.intro ?vv ?_); (case vv => (first | (with_reducible assumption) | (show _ ≤ sizeLine; decide) | exact len_ok rfl)))
  | (refine And.intro (Exists.intro _ rfl) ?_))
local macro_rules | `(tactic| walk_at "sc") => `(tactic| first
  | (with_reducible assumption)
  | exact divW (by omega) (by omega)
  | exact mulW (by omega) (by omega)
  | exact Or.inl ⟨by omega, by omega⟩
  | exact Or.inr ⟨by omega, by omega⟩
  | (show (_ : Int) ≠ 0; omega)
  | exact ⟨by decide, by decide, by decide⟩
  | decide)
local macro_rules | `(tactic| walk_at "rd") => `(tactic| repeat walk_at "rd1")
namespace MP
open PySem L2
section
variable {P : Program} {w : World} {K : PySem.W.Frag} {mg : Str → Option Value} {base : Heap} {ts : Nat → Tok} {kw C : Addr}
def sp_read_line (K : PySem.W.Frag) (C : Addr) : Sp := fun vs H Q _ => ∃ (p : Addr) (ad : Nat → Addr) (R : RdM) (a : Addr) (w0 : Str) (r0 : List Str) (line : Int), vs = [.ref p, .ref a, .int line] ∧ RdAt C H p ad R ∧ Sm R ∧ R.kinds.length < 999 ∧ R.owners.length < 999 ∧ Sm2 R ∧ BlkT R ∧ (∀ b ∈ R.blocks, b ≠ line) ∧ WdAt K H p ad a (w0 :: r0) ∧
  RdPost C p ad H (okLine isName isPrice priceOf itemOf R line (w0 :: r0)) (fun q => stLine isName isPrice priceOf itemOf R line q (w0 :: r0)) Q
theorem ok_read_line {f : Addr} {fd : FuncData} (F : Fun K "read_line" "read_line" s_read_line f fd) (T : ReadTxt K mg ts C) (c_read_mode : Cal P w K mg base 3 "read_mode" (sp_read_mode K C)) (c_read_start : Cal P w K mg base 1 "read_start" (sp_read_start K C)) (c_read_proc : Cal P w K mg base 3 "read_proc" (sp_read_proc K C))
    (c_read_inside : Cal P w K mg base 5 "read_inside" (sp_read_inside K C)) : FnOk P w K mg base CX0 6 f fd P_read_line (sp_read_line K C) := by
  refine F.ok sc_read_line (fun vs H Q E h => ?_) (fun cdv A outer s H vs Q E hr h => ?_)
  · obtain ⟨p, ad, R, a, w0, r0, line, rfl, _⟩ := h
    rfl
  · obtain ⟨p, ad, R, a, w0, r0, line, rfl, r, sm, sk, so, sm2, bt, hfr, x, k⟩ := h
    have hu := hu_of hr
    have Tr := T.rd
    refine ⟨_, (pss_cons (ps_dput hu (pe_fld (pv 0) rfl) (pv 2) (pe_ix ix_list (pv 1) pe_int (fun _ _ => rfl)) rfl)
      (pss_cons (ps_if (pt_cmpR op_eq (pe_ix ix_list (pv 1) pe_int (fun _ _ => rfl)) pe_str (nomark _)) (pss_one (ps_ret (pe_cc c_read_mode hr (by decide) rfl (pa_cons (pv 0) (pa_cons (pv 1) pa_nil))))) pss_nil)
      (pss_cons (ps_if (pt_cmpR op_eq (pe_ix ix_list (pv 1) pe_int (fun _ _ => rfl)) pe_str (nomark _)) (pss_one (ps_ret (pe_cc c_read_start hr (by decide) rfl (pa_cons (pv 0) (pa_cons (pv 1) pa_nil))))) pss_nil)
      (pss_cons (ps_if (pt_cmpR op_eq (pe_ix ix_list (pv 1) pe_int (fun _ _ => rfl)) pe_str (nomark _)) (pss_one (ps_ret (pe_cc c_read_proc hr (by decide) rfl (pa_cons (pv 0) (pa_cons (pv 1) (pa_cons (pv 2) pa_nil)))))) pss_nil)
      (pss_cons (ps_if (pt_cmpR op_isN (pe_fld (pv 0) rfl) pe_non (nomark _)) (pss_one (ps_ret pe_bl)) pss_nil)
      (pss_cons (ps_dput hu (pe_fld (pv 0) rfl) (pv 2) (pe_fld (pv 0) rfl) rfl)
      (pss_one (ps_ret (pe_cc c_read_inside hr (by decide) rfl (pa_cons (pv 0) (pa_cons (pv 1) (pa_cons (pv 2) pa_nil)))))))))))), ?_⟩
    show tSeq _ _ _ [some (V.ref p), some (V.ref a), some (V.int line)] H
    walk_at "rd"
    refine x_ixL (SqL.of x.at_) (atI_nat (j := 0) rfl) ?_
    walk_at "rd"
    refine r_putGI w0 r.t3 (lt5 sm.s3) ?_
    have r1 : RdAt C _ p ad (noteK R line w0) := r.put (o := .dK (kI V.str (putG R.kinds line w0))) 3 (by decide) rfl rfl ⟨r.ne.mo, r.ne.os, r.ne.wo⟩
    have f1 : Fro p ad H _ := Fro.put (o := .dK (kI V.str (putG R.kinds line w0))) (i := 3) (by decide)
    have x1 := x.fro f1
    have sm1 : Sm (noteK R line w0) := ⟨sm.s0, sm.s1, sm.s2, Nat.lt_of_le_of_lt (putG_len ..) (by omega), sm.s4, sm.s5, sm.s6, sm.s7, sm.s8, sm.s9, sm.s10, sm.s11⟩
    walk_at "rd"
    refine x_ixL (SqL.of x1.at_) (atI_nat (j := 0) rfl) ?_
    walk_at "rd"
    refine x_D (fun h1 => ?_) (fun h1 => ?_)
    · have h1 := V.str.inj h1
      walk_at "rd"
      exact ⟨p, ad, _, a, w0 :: r0, rfl, r1, sm1, x1, k.of f1 (if_pos h1) (fun q => if_pos h1)⟩
    replace h1 : ¬ w0 = ("mode" : Str) := fun z => h1 (by rw [z])
    walk_at "rd"
    refine x_ixL (SqL.of x1.at_) (atI_nat (j := 0) rfl) ?_
    walk_at "rd"
    refine x_D (fun h2 => ?_) (fun h2 => ?_)
    · have h2 := V.str.inj h2
      walk_at "rd"
      exact ⟨p, ad, _, a, w0 :: r0, rfl, r1, sm1, x1, k.of f1 ((if_neg h1).trans (if_pos h2)) (fun q => (if_neg h1).trans (if_pos h2))⟩
    replace h2 : ¬ w0 = ("start" : Str) := fun z => h2 (by rw [z])
    walk_at "rd"
    refine x_ixL (SqL.of x1.at_) (atI_nat (j := 0) rfl) ?_
    walk_at "rd"
    refine x_D (fun h3 => ?_) (fun h3 => ?_)
    · have h3 := V.str.inj h3
      walk_at "rd"
      exact ⟨p, ad, _, a, w0 :: r0, line, rfl, r1, sm1, x1, k.of f1 (((if_neg h1).trans (if_neg h2)).trans (if_pos h3)) (fun q => ((if_neg h1).trans (if_neg h2)).trans (if_pos h3))⟩
    replace h3 : ¬ w0 = ("proc" : Str) := fun z => h3 (by rw [z])
    have ke : ∀ {b}, _ = b → okLine isName isPrice priceOf itemOf R line (w0 :: r0) = b := fun {b} (z : _ = b) => (((if_neg h1).trans (if_neg h2)).trans (if_neg h3)).trans z
    have kt : ∀ {q b}, _ = b → stLine isName isPrice priceOf itemOf R line q (w0 :: r0) = b := fun {q b} (z : _ = b) => (((if_neg h1).trans (if_neg h2)).trans (if_neg h3)).trans z
    walk_at "rd"
    refine x_D (fun h4 => ?_) (fun h4 => ?_)
    · have h4 : R.owner = none := own_non.mp h4
      walk_at "rd"
      exact k.1 (ke (by rw [h4])) _ f1
    obtain ⟨o, ho⟩ : ∃ o, R.owner = some o := by
      cases e : R.owner with
      | none => exact absurd (own_non.mpr e) h4
      | some o => exact ⟨o, rfl⟩
    walk_at "rd"
    have hov : ownV (noteK R line w0).owner = .str o := by show ownV R.owner = _; rw [ho]; rfl
    rw [hov]
    refine r_putGI o r1.t4 (lt5 sm1.s4) ?_
    have r2 : RdAt C _ p ad { noteK R line w0 with owners := putG R.owners line o } := r1.put (o := .dK (kI V.str (putG R.owners line o))) 4 (by decide) rfl rfl ⟨r1.ne.mo, r1.ne.os, r1.ne.wo⟩
    have f2 : Fro p ad H _ := f1.trans (Fro.put (o := .dK (kI V.str (putG R.owners line o))) (i := 4) (by decide))
    have x2 := x.fro f2
    have sm3 : Sm { noteK R line w0 with owners := putG R.owners line o } := ⟨sm.s0, sm.s1, sm.s2, sm1.s3, Nat.lt_of_le_of_lt (putG_len ..) (by omega), sm.s5, sm.s6, sm.s7, sm.s8, sm.s9, sm.s10, sm.s11⟩
    walk_at "rd"
    refine ⟨p, ad, _, a, w0, r0, line, rfl, r2, sm3, ⟨sm2.m, sm2.o⟩, fun b hb => ?_, by show R.owner.isSome = true; rw [ho]; rfl, x2, k.of f2 (ke (by rw [ho])) (fun q => kt (by rw [ho]))⟩
    obtain ⟨kd, hk, hor⟩ := bt b hb
    refine ⟨kd, ?_, hor⟩
    show look (putG R.kinds line w0) b = some kd
    rw [look_putG, if_neg fun z => hfr b hb z.symm]
    exact hk
end
end MP
end
section
open PySem L2 MPX MP
local macro_rules | `(tactic| walk_at "rd1") => `(tactic| first
  | with_reducible refine x_seq ?_
  | with_reducible refine x_next ?_
  | with_reducible refine x_ret ?_
  | with_reducible refine x_retN ?_
  | with_reducible refine x_ifs ?_
  | with_reducible refine x_asg ?_
  | with_reducible refine x_drop ?_
  | with_reducible refine x_name ?_
  | ((with_reducible refine' x_var ?vv ?_); (case vv => exact rfl))
  | with_reducible refine x_c ?_
  | with_reducible refine x_op ?_
  | with_reducible refine x_un ?_
  | with_reducible refine x_test ?_
  | with_reducible refine x_tB ?_
  | with_reducible refine x_and ?_
  | with_reducible refine x_or ?_
  | with_reducible refine x_not ?_
  | with_reducible refine x_andV ?_
  | with_reducible refine x_orV ?_
  | with_reducible refine x_notV ?_
  | with_reducible refine x_if ?_
  | with_reducible refine x_nil ?_
  | with_reducible refine x_cons ?_
  | with_reducible refine x_tup ?_
  | with_reducible refine x_lst ?_
  | with_reducible refine x_cb ?_
  | with_reducible refine x_call ?_
  | with_reducible refine x_callS ?_
  | with_reducible refine x_callP ?_
  | with_reducible refine x_mk0 ?_
  | with_reducible refine x_mk1 ?_
  | with_reducible refine x_mk2 ?_
  | with_reducible refine x_make ?_
  | with_reducible refine x_sfld ?_
  | with_reducible refine x_din ?_
  | with_reducible refine x_dnin ?_
  | with_reducible refine x_fldS ?_
  | with_reducible refine x_sl3 ?_
  | ((with_reducible refine' r_rd ?vr ?vt ?vm ?vl ?vq); (case vr => (with_reducible assumption)); (case vt => assumption); (case vm => decide +kernel); (case vl => exact rfl))
  | with_reducible refine x_m0 ?_
  | with_reducible refine x_m1 ?_
  | with_reducible refine x_bm0 ?_
  | with_reducible refine x_bm ?_
  | with_reducible refine x_par ?_
  | with_reducible refine x_ilist ?_
  | with_reducible refine x_itup ?_
  | with_reducible refine x_istr ?_
  | ((with_reducible show tLc _ _ _ _ _ _ _ _); unfold tLc)
  | ((with_reducible show tFor _ _ _ _ _ _); unfold tFor)
  | ((with_reducible refine' x_eq ?vv ?_); (case vv => exact rfl))
  | ((with_reducible refine' x_ne ?vv ?_); (case vv => exact rfl))
  | with_reducible refine x_rI0 ?_
  | with_reducible refine x_dgetR ?_
  | with_reducible refine x_dputR ?_
  | with_reducible refine x_dnew ?_
  | with_reducible refine x_dget1 ?_
  | with_reducible refine x_dget2 ?_
  | with_reducible refine x_sl ?_
  | with_reducible refine x_nopart ?_
  | with_reducible refine x_part ?_
  | ((with_reducible refine' x_slL ?vv ?_); (case vv => (with_reducible assumption)))
  | with_reducible refine x_disp ?_
  | with_reducible refine x_pcons ?_
  | with_reducible refine x_pnil ?_
  | ((with_reducible refine' x_mod ?vv ?_); (case vv => omega); intro r er hr0 hr1; (try clear er))
  | ((with_reducible refine' x_rI ?vv ?_); (case vv => walk_at "sc"))
  | (with_reducible refine Or.inl (Exists.intro _ (And.intro rfl ?_)))
  | with_reducible refine x_T ?_
  | with_reducible refine x_F ?_
  | ((with_reducible show Exists (α := V) _); (with_reducible apply Exists.intro))
  | ((with_reducible show Exists (α := Bool) _); (with_reducible apply Exists.intro))
  | ((with_reducible show Exists (α := Nat) _); (with_reducible apply Exists.intro))
  | ((with_reducible show Exists (α := Int) _); (with_reducible apply Exists.intro))
  | ((with_reducible show Exists (α := List V) _); (with_reducible apply Exists.intro))
  | ((with_reducible show Exists (α := PySem.Str) _); (with_reducible apply Exists.intro))
  | ((with_reducible show Exists (α := Option V) _); (with_reducible apply Exists.intro))
  | ((with_reducible show Exists (α := Option Int) _); (with_reducible apply Exists.intro))
  | ((with_reducible show Exists (α := List (Key × V)) _); (with_reducible apply Exists.intro))
  | refine And.intro rfl ?_
  | ((with_reducible refine And.intro ?vv ?_); (case vv => (first | (with_reducible assumption) | (show _ ≤ sizeLine; decide) | exact len_ok rfl)))
  | (refine And.intro (Exists.intro _ rfl) ?_))
local macro_rules | `(tactic| walk_at "sc") => `(tactic| first
  | (with_reducible assumption)
  | exact divW (by omega) (by omega)
  | exact mulW (by omega) (by omega)
  | exact Or.inl ⟨by omega, by omega⟩
  | exact Or.inr ⟨by omega, by omega⟩
  | (show (_ : Int) ≠ 0; omega)
  | exact ⟨by decide, by decide, by decide⟩
  | decide)
local macro_rules | `(tactic| walk_at "rd") => `(tactic| repeat walk_at "rd1")
namespace MP
open PySem L2
section
variable {P : Program} {w : World} {K : PySem.W.Frag} {mg : Str → Option Value} {base : Heap} {ts : Nat → Tok} {kw C : Addr}
def sp_init (C : Addr) : Sp := fun vs H Q _ => ∃ (x dx : Addr), vs = [.ref x] ∧ H x = some (.ins C dx []) ∧ ∀ ad H', RdAt C H' x ad RdM.empty → (∀ j, j < 12 → H (ad j) = none) → (∀ b o, H b = some o → b ≠ x → H' b = some o) → Q .non H'
theorem ok_init {f : Addr} {fd : FuncData} (F : Fun K "__init__" "Reading.__init__" s_Reading___init__ f fd) (T : RdTxt K C) : FnOk P w K mg base CX0 1 f fd P_Reading___init__ (sp_init C) := by
  refine F.ok sc_Reading___init__ (fun vs H Q E h => ?_) (fun cdv A outer s H vs Q E hr h => ?_)
  · obtain ⟨x, dx, rfl, _⟩ := h
    rfl
  · obtain ⟨x, dx, rfl, hx, k⟩ := h
    refine ⟨_, (pss_cons (ps_fld (pv 0) pe_dnewK rfl)
      (pss_cons (ps_fld (pv 0) pe_dnewK rfl)
      (pss_cons (ps_fld (pv 0) pe_dnewK rfl)
      (pss_cons (ps_fld (pv 0) pe_dnewK rfl)
      (pss_cons (ps_fld (pv 0) pe_dnewK rfl)
      (pss_cons (ps_fld (pv 0) pe_dnewK rfl)
      (pss_cons (ps_fld (pv 0) pe_dnewK rfl)
      (pss_cons (ps_fld (pv 0) pe_dnewK rfl)
      (pss_cons (ps_fld (pv 0) pe_dnewK rfl)
      (pss_cons (ps_fld (pv 0) pe_dnewK rfl)
      (pss_cons (ps_fld (pv 0) pe_dnewK rfl)
      (pss_cons (ps_fld (pv 0) pe_non rfl)
      (pss_one (ps_fld (pv 0) (pe_lst pa_nil) rfl)))))))))))))), ?_⟩
    show tSeq _ _ _ [some (V.ref x)] H
    have i0 : IniAt H C dx x H [] [] := ⟨hx, fun e he => (nomatch he), List.nodup_nil, fun e he => (nomatch he), fun e he => (nomatch he), fun _ _ e _ => e⟩
    walk_at "rd"
    intro p0 n0
    have j0 := i0.alloc (.dK []) n0
    walk_at "rd"
    refine ⟨_, rfl, j0.ob, T.cl, T.na _ (by decide +kernel), Nat.le_of_ble_eq_true rfl, ?_⟩
    have i1 := j0.set (putF "modes" (.ref p0) [])
    clear j0 i0
    walk_at "rd"
    intro p1 n1
    have j1 := i1.alloc (.dK []) n1
    walk_at "rd"
    refine ⟨_, rfl, j1.ob, T.cl, T.na _ (by decide +kernel), Nat.le_of_ble_eq_true rfl, ?_⟩
    have i2 := j1.set (putF "begins" (.ref p1) (putF "modes" (.ref p0) []))
    clear j1 i1
    walk_at "rd"
    intro p2 n2
    have j2 := i2.alloc (.dK []) n2
    walk_at "rd"
    refine ⟨_, rfl, j2.ob, T.cl, T.na _ (by decide +kernel), Nat.le_of_ble_eq_true rfl, ?_⟩
    have i3 := j2.set (putF "routines" (.ref p2) (putF "begins" (.ref p1) (putF "modes" (.ref p0) [])))
    clear j2 i2
    walk_at "rd"
    intro p3 n3
    have j3 := i3.alloc (.dK []) n3
    walk_at "rd"
    refine ⟨_, rfl, j3.ob, T.cl, T.na _ (by decide +kernel), Nat.le_of_ble_eq_true rfl, ?_⟩
    have i4 := j3.set (putF "kinds" (.ref p3) (putF "routines" (.ref p2) (putF "begins" (.ref p1) (putF "modes" (.ref p0) []))))
    clear j3 i3
    walk_at "rd"
    intro p4 n4
    have j4 := i4.alloc (.dK []) n4
    walk_at "rd"
    refine ⟨_, rfl, j4.ob, T.cl, T.na _ (by decide +kernel), Nat.le_of_ble_eq_true rfl, ?_⟩
    have i5 := j4.set (putF "owners" (.ref p4) (putF "kinds" (.ref p3) (putF "routines" (.ref p2) (putF "begins" (.ref p1) (putF "modes" (.ref p0) [])))))
    clear j4 i4
    walk_at "rd"
    intro p5 n5
    have j5 := i5.alloc (.dK []) n5
    walk_at "rd"
    refine ⟨_, rfl, j5.ob, T.cl, T.na _ (by decide +kernel), Nat.le_of_ble_eq_true rfl, ?_⟩
    have i6 := j5.set (putF "partners" (.ref p5) (putF "owners" (.ref p4) (putF "kinds" (.ref p3) (putF "routines" (.ref p2) (putF "begins" (.ref p1) (putF "modes" (.ref p0) []))))))
    clear j5 i5
    walk_at "rd"
    intro p6 n6
    have j6 := i6.alloc (.dK []) n6
    walk_at "rd"
    refine ⟨_, rfl, j6.ob, T.cl, T.na _ (by decide +kernel), Nat.le_of_ble_eq_true rfl, ?_⟩
    have i7 := j6.set (putF "ors" (.ref p6) (putF "partners" (.ref p5) (putF "owners" (.ref p4) (putF "kinds" (.ref p3) (putF "routines" (.ref p2) (putF "begins" (.ref p1) (putF "modes" (.ref p0) [])))))))
    clear j6 i6
    walk_at "rd"
    intro p7 n7
    have j7 := i7.alloc (.dK []) n7
    walk_at "rd"
    refine ⟨_, rfl, j7.ob, T.cl, T.na _ (by decide +kernel), Nat.le_of_ble_eq_true rfl, ?_⟩
    have i8 := j7.set (putF "calls" (.ref p7) (putF "ors" (.ref p6) (putF "partners" (.ref p5) (putF "owners" (.ref p4) (putF "kinds" (.ref p3) (putF "routines" (.ref p2) (putF "begins" (.ref p1) (putF "modes" (.ref p0) []))))))))
    clear j7 i7
    walk_at "rd"
    intro p8 n8
    have j8 := i8.alloc (.dK []) n8
    walk_at "rd"
    refine ⟨_, rfl, j8.ob, T.cl, T.na _ (by decide +kernel), Nat.le_of_ble_eq_true rfl, ?_⟩
    have i9 := j8.set (putF "leaves" (.ref p8) (putF "calls" (.ref p7) (putF "ors" (.ref p6) (putF "partners" (.ref p5) (putF "owners" (.ref p4) (putF "kinds" (.ref p3) (putF "routines" (.ref p2) (putF "begins" (.ref p1) (putF "modes" (.ref p0) [])))))))))
    clear j8 i8
    walk_at "rd"
    intro p9 n9
    have j9 := i9.alloc (.dK []) n9
    walk_at "rd"
    refine ⟨_, rfl, j9.ob, T.cl, T.na _ (by decide +kernel), Nat.le_of_ble_eq_true rfl, ?_⟩
    have i10 := j9.set (putF "works" (.ref p9) (putF "leaves" (.ref p8) (putF "calls" (.ref p7) (putF "ors" (.ref p6) (putF "partners" (.ref p5) (putF "owners" (.ref p4) (putF "kinds" (.ref p3) (putF "routines" (.ref p2) (putF "begins" (.ref p1) (putF "modes" (.ref p0) []))))))))))
    clear j9 i9
    walk_at "rd"
    intro p10 n10
    have j10 := i10.alloc (.dK []) n10
    walk_at "rd"
    refine ⟨_, rfl, j10.ob, T.cl, T.na _ (by decide +kernel), Nat.le_of_ble_eq_true rfl, ?_⟩
    have i11 := j10.set (putF "ends" (.ref p10) (putF "works" (.ref p9) (putF "leaves" (.ref p8) (putF "calls" (.ref p7) (putF "ors" (.ref p6) (putF "partners" (.ref p5) (putF "owners" (.ref p4) (putF "kinds" (.ref p3) (putF "routines" (.ref p2) (putF "begins" (.ref p1) (putF "modes" (.ref p0) [])))))))))))
    clear j10 i10
    walk_at "rd"
    refine ⟨_, rfl, i11.ob, T.cl, T.na _ (by decide +kernel), Nat.le_of_ble_eq_true rfl, ?_⟩
    have i12 := i11.set (putF "owner" .non (putF "ends" (.ref p10) (putF "works" (.ref p9) (putF "leaves" (.ref p8) (putF "calls" (.ref p7) (putF "ors" (.ref p6) (putF "partners" (.ref p5) (putF "owners" (.ref p4) (putF "kinds" (.ref p3) (putF "routines" (.ref p2) (putF "begins" (.ref p1) (putF "modes" (.ref p0) []))))))))))))
    walk_at "rd"
    intro p11 n11
    have j12 := i12.alloc (.lst []) n11
    walk_at "rd"
    refine ⟨_, rfl, j12.ob, T.cl, T.na _ (by decide +kernel), Nat.le_of_ble_eq_true rfl, ?_⟩
    have i13 := j12.set (putF "blocks" (.ref p11) (putF "owner" .non (putF "ends" (.ref p10) (putF "works" (.ref p9) (putF "leaves" (.ref p8) (putF "calls" (.ref p7) (putF "ors" (.ref p6) (putF "partners" (.ref p5) (putF "owners" (.ref p4) (putF "kinds" (.ref p3) (putF "routines" (.ref p2) (putF "begins" (.ref p1) (putF "modes" (.ref p0) [])))))))))))))
    obtain ⟨r, hn⟩ := i13.rd rfl (fun j => ([p0, p1, p2, p3, p4, p5, p6, p7, p8, p9, p10, p11] : List Addr).getD j 0) (fun j hj => by
      rcases in12 hj with rfl | rfl | rfl | rfl | rfl | rfl | rfl | rfl | rfl | rfl | rfl | rfl
      all_goals exact ⟨_, rfl, rfl⟩) rfl
    exact k _ _ r hn i13.fr
end
end MP
end
section
namespace MP
open PySem PySem.Spec PyProof.Rows L2
/-! ### != of nested lists that are equal; an object is equal to itself -/
def LsR (K : PySem.W.Frag) (H : Hp) (F : V → V → Prop) (x y : V) : Prop := ∃ a b xs ys, x = .ref a ∧ y = .ref b ∧ SqL K H a xs ∧ SqL K H b ys ∧ Paired F xs ys
def EqW (K : PySem.W.Frag) (H : Hp) : Nat → V → V → Prop
  | 0 => fun _ _ => False
  | n + 1 => fun x y => (x = y ∧ flatB x = true) ∨ (∃ a, x = .ref a ∧ y = .ref a) ∨ LsR K H (EqW K H n) x y
theorem items_at {A : Around} {s : Shared} {F : V → V → Prop} (ih : ∀ x y v u, F x y → RelV x v → RelV y u → SeqAt.EqAt A s v u true) {xs ys : List V} (hp : Paired F xs ys) :
    ∀ {us ws : List Value}, Vals xs us → Vals ys ws → ∀ j (h1 : j < us.length) (h2 : j < ws.length), SeqAt.EqAt A s us[j] ws[j] true := by
  induction hp with
  | nil =>
    intro us ws r1 r2 j h1 h2
    cases r1
    exact absurd h1 (Nat.not_lt_zero j)
  | cons h _ k =>
    intro us ws r1 r2 j h1 h2
    cases r1 with
    | cons a1 b1 =>
      cases r2 with
      | cons a2 b2 =>
        cases j with
        | zero => exact ih _ _ _ _ h a1 a2
        | succ j => exact k b1 b2 j (Nat.lt_of_succ_lt_succ h1) (Nat.lt_of_succ_lt_succ h2)
section
variable {X : Cx} {pins : List (Addr × Obj)} {σ : L2.St} {H : Hp} {s : Shared}
theorem lists_of (I : Inv X pins σ H s) {A : Around} {F : V → V → Prop} (ih : ∀ x y v u, F x y → RelV x v → RelV y u → SeqAt.EqAt A.in1 s v u true) {a b : Addr} {xs ys : List V} (ha : SqL X.K H a xs) (hb : SqL X.K H b ys) (hp : Paired F xs ys) :
    ∃ us ws : Array Value, s.heap.IsList a us ∧ s.heap.IsList b ws ∧ us.size = ws.size ∧ ∀ j (h1 : j < us.size) (h2 : j < ws.size), SeqAt.EqAt A.in1 s us[j] ws[j] ((fun _ => true) j) := by
  obtain ⟨us, r1, p1, _⟩ := I.list ha
  obtain ⟨ws, r2, p2, _⟩ := I.list hb
  refine ⟨us.toArray, ws.toArray, p1.isList, p2.isList, ?_, fun j h1 h2 => ?_⟩
  · rw [List.size_toArray, List.size_toArray, ← r1.length, ← r2.length]
    exact Paired.length hp
  · have k := items_at ih hp r1 r2 j (by simpa using h1) (by simpa using h2)
    simpa using k
theorem all_t (n : Nat) : ((List.range n).all fun _ => true) = true := List.all_eq_true.mpr fun _ _ => rfl
theorem eqW_run (I : Inv X pins σ H s) : ∀ (n : Nat) (A : Around), A.units + n < cLine → ∀ (x y : V) (v u : Value), EqW X.K H n x y → RelV x v → RelV y u → SeqAt.EqAt A s v u true
  | 0, _, _, _, _, _, _, h, _, _ => (show False from h).elim
  | n + 1, A, hu, x, y, v, u, h, rx, ry => by
    rcases h with ⟨rfl, f⟩ | ⟨a, rfl, rfl⟩ | ⟨a, b, xs, ys, rfl, rfl, ha, hb, hp⟩
    · exact eqAt_same rx ry f
    · cases (show v = Value.ref a from rx)
      cases (show u = Value.ref a from ry)
      exact SeqAt.EqAt.same _
    · obtain ⟨us, ws, l1, l2, hz, he⟩ := lists_of I (A := A) (eqW_run I n A.in1 (by show A.units + 1 + n < cLine; omega)) ha hb hp
      cases (show v = Value.ref a from rx)
      cases (show u = Value.ref b from ry)
      by_cases e : a = b
      · subst e
        exact SeqAt.EqAt.same _
      · have q := SeqAt.RcAt.lists l1 l2 hz (by omega) he
        rw [all_t] at q
        exact SeqAt.EqAt.of_refs e q
end
/-- x != y, two lists that are equal -/
def rNeW (K : PySem.W.Frag) : R2 := fun x y H Q => ∃ n, n ≤ 60 ∧ LsR K H (EqW K H n) x y ∧ Q (.bl false) H
theorem op_neW {X : Cx} (hu : X.A.units + 64 < cLine) : OpR X (compareOp .NotEq) (rNeW X.K) := by
  intro pins s σ H x y v u Q I rx ry h
  obtain ⟨n, hn, ⟨a, b, xs, ys, rfl, rfl, ha, hb, hp⟩, q⟩ := h
  obtain ⟨us, ws, l1, l2, hz, he⟩ := lists_of I (A := X.A) (eqW_run I n X.A.in1 (by show X.A.units + 1 + n < cLine; omega)) ha hb hp
  cases (show v = Value.ref a from rx)
  cases (show u = Value.ref b from ry)
  have z := SeqAt.RcNeAt.lists l1 l2 hz (by omega) he
  rw [all_t] at z
  exact z _ _ _ _ ⟨.bl false, H, I, rfl, q⟩
/-- a list != an empty one -/
def rNeE (K : PySem.W.Frag) : R2 := fun x y H Q => ∃ a b xs, x = .ref a ∧ y = .ref b ∧ SqL K H a xs ∧ H b = some (.lst []) ∧ Q (.bl (!xs.isEmpty)) H
theorem op_neE {X : Cx} (hu : X.A.units + 64 < cLine) : OpR X (compareOp .NotEq) (rNeE X.K) := by
  intro pins s σ H x y v u Q I rx ry h
  obtain ⟨a, b, xs, rfl, rfl, ha, hb, q⟩ := h
  obtain ⟨us, r1, p1, _⟩ := I.list ha
  obtain ⟨ws, r2, p2, _⟩ := I.list (SqL.of (K := X.K) hb)
  cases (show v = Value.ref a from rx)
  cases (show u = Value.ref b from ry)
  cases r2
  have hl := r1.length
  by_cases e : xs = []
  · subst e
    cases r1
    have z := SeqAt.RcNeAt.lists (A := X.A) (e := fun _ => true) p1.isList p2.isList rfl (by omega) (fun j h1 _ => absurd h1 (Nat.not_lt_zero j))
    rw [all_t] at z
    exact z _ _ _ _ ⟨.bl false, H, I, rfl, q⟩
  · have hne : us.length ≠ 0 := fun z => e (List.eq_nil_of_length_eq_zero (by omega))
    have z := SeqAt.RcNeAt.lists_lengths (A := X.A) p1.isList p2.isList (by simpa using hne) (by omega)
    have e2 : (!xs.isEmpty) = true := by
      cases xs with
      | nil => exact absurd rfl e
      | cons _ _ => rfl
    rw [e2] at q
    exact z _ _ _ _ ⟨.bl true, H, I, rfl, q⟩
theorem x_neE {K : PySem.W.Frag} {a b : Addr} {xs : List V} {H : Hp} {Q : VK} (h1 : SqL K H a xs) (h2 : H b = some (.lst [])) (h : Q (.bl (!xs.isEmpty)) H) : rNeE K (.ref a) (.ref b) H Q := ⟨a, b, xs, rfl, rfl, h1, h2, h⟩
def rTup (K : PySem.W.Frag) : List V → Hp → VK → Prop := fun xs H Q => ∃ p ys, xs = [.ref p] ∧ ((SqL K H p ys ∧ ∀ l, H l = none → Q (.ref l) (upd H l (.tup ys))) ∨ (SqT K H p ys ∧ Q (.ref p) H))
theorem call_tuple_K {X : Cx} {K : PySem.W.Frag} (hk : X.K = K) : CallR X (.type "tuple") (rTup K) := hk ▸ call_tuple_of
theorem x_tupL {K : PySem.W.Frag} {p : Addr} {ys : List V} {H : Hp} {Q : VK} (h : SqL K H p ys) (q : ∀ l, H l = none → Q (.ref l) (upd H l (.tup ys))) : rTup K [.ref p] H Q := ⟨p, ys, rfl, .inl ⟨h, q⟩⟩
/-! ### a class of the module that is called -/
structure CalM (P : Program) (w : World) (K : PySem.W.Frag) (mg : Str → Option Value) (base : Heap) (k : Nat) (x : Str) (C : Addr) (sp : Sp) : Prop where
  ex : ∃ (f : Addr) (fd : FuncData) (ps : List Str), Mk K C f ∧ FnOk P w K mg base (L2.CX P w) k f fd ps sp ∧ mg x = some (.ref C) ∧ Binds K fd ps []
theorem pe_cm {X : Cx} {k j : Nat} {x : Str} {C : Addr} {sp : Sp} {p pos : Pos} {e : Expr} {es : List Expr} {t : TA} (c : CalM X.prog X.w X.K X.mg X.base k x C sp) (hr : Room j X.A) (hk : k + 1 ≤ j) (hg : Gl X x) (ha : PA X (e :: es) t)
    (hdb : (x == ("__debug__" : Str)) = false := by decide) (he : starEach (e :: es) X.env = (false, eval e X.env) :: starEach es X.env := by rfl) (hpl : (backTo pos (starEach es X.env)).any (·.1) = false := by rfl) :
    PE X (.Call (.Name x p) (e :: es) [] pos) (tMake C sp [] E0 t) := by
  obtain ⟨f, fd, ps, M, F, hm, b⟩ := c.ex
  exact pe_make M F (hr.mono hk) hg hm b .nil passL ha hdb he hpl
theorem pe_cm0 {X : Cx} {k j : Nat} {x : Str} {C : Addr} {sp : Sp} {p pos : Pos} (c : CalM X.prog X.w X.K X.mg X.base k x C sp) (hr : Room j X.A) (hk : k + 1 ≤ j) (hg : Gl X x) (hdb : (x == ("__debug__" : Str)) = false := by decide) : PE X (.Call (.Name x p) [] [] pos) (tMake C sp [] E0 tNil) := by
  obtain ⟨f, fd, ps, M, F, hm, b⟩ := c.ex
  exact pe_make0 M F (hr.mono hk) hg hm b .nil passL hdb
theorem pe_fldK {X : Cx} {K : PySem.W.Frag} (hk : X.K = K) {e : Expr} {f : Str} {ta : TE} {pos : Pos} (he : PE X e ta) (hb : attributeBase e f X.env (eval e X.env) = eval e X.env) : PE X (.Attribute e f pos) (tFld K ta f) := hk ▸ pe_fld he hb
end MP
end
section
namespace MP
open PySem L2
/-! ### what stays true of the tables from line to line -/
structure Gd (n : Nat) (line : Int) (R : RdM) : Prop where
  l0 : R.modes.length ≤ n
  l1 : R.begins.length ≤ n
  l2 : R.routines.length ≤ n
  l3 : R.kinds.length ≤ n
  l4 : R.owners.length ≤ n
  l5 : R.partners.length ≤ 2 * n
  l6 : R.ors.length ≤ n
  l7 : R.calls.length ≤ n
  l8 : R.leaves.length ≤ n
  l9 : R.works.length ≤ n
  l10 : R.ends.length ≤ n
  l11 : R.blocks.length ≤ n
  mo : ∀ x ∈ R.modes, x.2.2.length ≤ 12
  os : ∀ x ∈ R.ors, x.2.2.length ≤ n
  bt : BlkT R
  bl : ∀ b ∈ R.blocks, b < line
/-- the same when the line's kind is noted -/
structure Gk (n : Nat) (line : Int) (k : Str) (R : RdM) : Prop where
  l0 : R.modes.length ≤ n
  l1 : R.begins.length ≤ n
  l2 : R.routines.length ≤ n
  l3 : R.kinds.length ≤ n + 1
  l4 : R.owners.length ≤ n + 1
  l5 : R.partners.length ≤ 2 * n
  l6 : R.ors.length ≤ n
  l7 : R.calls.length ≤ n
  l8 : R.leaves.length ≤ n
  l9 : R.works.length ≤ n
  l10 : R.ends.length ≤ n
  l11 : R.blocks.length ≤ n
  mo : ∀ x ∈ R.modes, x.2.2.length ≤ 12
  os : ∀ x ∈ R.ors, x.2.2.length ≤ n
  bt : BlkT R
  bl : ∀ b ∈ R.blocks, b < line
  kk : look R.kinds line = some k
theorem Gd.start (n : Nat) (line : Int) : Gd n line RdM.empty := by
  constructor
  all_goals first
    | exact Nat.zero_le _
    | (intro x hx; cases hx)
theorem Gd.mono {n m : Nat} {line lin2 : Int} {R : RdM} (g : Gd n line R) (h : n ≤ m) (h2 : line ≤ lin2) : Gd m lin2 R := by
  obtain ⟨l0, l1, l2, l3, l4, l5, l6, l7, l8, l9, l10, l11, mo, os, bt, bl⟩ := g
  exact ⟨by omega, by omega, by omega, by omega, by omega, by omega, by omega, by omega, by omega, by omega, by omega, by omega, mo, fun x hx => Nat.le_trans (os x hx) h, bt, fun b hb => by have := bl b hb; omega⟩
theorem BlkT.kinds {R : RdM} (bt : BlkT R) {line : Int} {k : Str} (h : ∀ b ∈ R.blocks, b < line) : BlkT { R with kinds := putG R.kinds line k } := fun b hb => by
  obtain ⟨kd, hk, ho⟩ := bt b hb
  refine ⟨kd, ?_, ho⟩
  show look (putG R.kinds line k) b = some kd
  rw [look_putG, if_neg fun z => by have := h b hb; omega]
  exact hk
theorem Gd.note {n : Nat} {line : Int} {R : RdM} (g : Gd n line R) (k : Str) : Gk n line k (noteK R line k) := by
  obtain ⟨l0, l1, l2, l3, l4, l5, l6, l7, l8, l9, l10, l11, mo, os, bt, bl⟩ := g
  refine ⟨l0, l1, l2, Nat.le_trans (putG_len ..) (by omega), by show R.owners.length ≤ n + 1; omega, l5, l6, l7, l8, l9, l10, l11, mo, os, bt.kinds bl, bl, ?_⟩
  show look (putG R.kinds line k) line = some k
  rw [look_putG, if_pos rfl]
theorem Gd.noteO {n : Nat} {line : Int} {R : RdM} (g : Gd n line R) (k o : Str) : Gk n line k { noteK R line k with owners := putG R.owners line o } := by
  have h := g.note k
  exact ⟨h.l0, h.l1, h.l2, h.l3, Nat.le_trans (putG_len ..) (by have := g.l4; omega), h.l5, h.l6, h.l7, h.l8, h.l9, h.l10, h.l11, h.mo, h.os, h.bt, h.bl, h.kk⟩
theorem Gk.to {n : Nat} {line : Int} {k : Str} {R : RdM} (g : Gk n line k R) : Gd (n + 1) (line + 1) R := by
  obtain ⟨l0, l1, l2, l3, l4, l5, l6, l7, l8, l9, l10, l11, mo, os, bt, bl, kk⟩ := g
  exact ⟨by omega, by omega, by omega, by omega, by omega, by omega, by omega, by omega, by omega, by omega, by omega, by omega, mo, fun x hx => by have := os x hx; omega, bt, fun b hb => by have := bl b hb; omega⟩
theorem modeItems_len {nm pr : Str → Bool} {val : Str → Int} : ∀ (r : List Str) (acc : List (Str × Int)) {vs : List (Str × Int)}, modeItems nm pr val r acc = some vs → vs.length ≤ acc.length + r.length
  | [], acc, vs, h => by
    cases (show some acc = some vs from h)
    omega
  | [_], acc, vs, h => by
    cases (show some acc = some vs from h)
    omega
  | v :: p :: r, acc, vs, h => by
    unfold modeItems at h
    split at h
    · have := modeItems_len r _ h
      have := putG_len acc v (val p)
      simp only [List.length_cons]
      omega
    · cases h
section
variable {n : Nat} {line : Int} {k : Str} {R : RdM}
theorem Gk.mode {nm pr : Str → Bool} {val : Str → Int} {q : Addr} {ws : List Str} (g : Gk n line k R) (h : okMode nm pr val R ws = true) : Gd (n + 1) (line + 1) (stMode nm pr val R q ws) := by
  have g1 := g.to
  match ws, h with
  | [], h => exact g1
  | [_], h => exact g1
  | w0 :: m :: r, h =>
    unfold okMode at h
    have hr : r.length ≤ 12 := by
      simp only [Bool.and_eq_true, decide_eq_true_eq] at h
      exact h.1.1.1.1.1.2
    cases e : modeItems nm pr val r [] with
    | none =>
      have es : stMode nm pr val R q (w0 :: m :: r) = R := by
        unfold stMode
        simp only [e]
      rw [es]
      exact g1
    | some vs =>
      have es : stMode nm pr val R q (w0 :: m :: r) = { R with modes := putG R.modes m (q, vs) } := by
        unfold stMode
        simp only [e]
      rw [es]
      have hl := modeItems_len r [] e
      refine { g1 with l0 := Nat.le_trans (putG_len ..) (by have := g.l0; omega), mo := fun x hx => ?_ }
      rcases mem_putG hx with z | hx
      · rw [z]
        show vs.length ≤ 12
        simp only [List.length_nil] at hl
        omega
      · exact g.mo x hx
theorem Gk.start {ws : List Str} (g : Gk n line k R) : Gd (n + 1) (line + 1) (stStart R ws) := by
  have g1 := g.to
  unfold stStart
  split
  · exact { g1 with l1 := Nat.le_trans (putG_len ..) (by have := g.l1; omega) }
  · exact g1
theorem Gk.proc {ws : List Str} (g : Gk n line k R) : Gd (n + 1) (line + 1) (stProc R line ws) := by
  have g1 := g.to
  unfold stProc
  split
  · exact { g1 with l2 := Nat.le_trans (putG_len ..) (by have := g.l2; omega) }
  · exact g1
theorem Gk.doL {it : Str → Option (Str × Str)} {q : Addr} {ws : List Str} (g : Gk n line k R) : Gd (n + 1) (line + 1) (stDo it R line q ws) := by
  have g1 := g.to
  unfold stDo
  split
  · split
    · exact { g1 with l9 := Nat.le_trans (putG_len ..) (by have := g.l9; omega) }
    · exact g1
  · exact g1
theorem Gk.call {r : List Str} (g : Gk n line k R) : Gd (n + 1) (line + 1) (stCall R line r) := by
  have g1 := g.to
  unfold stCall
  split
  · exact { g1 with l7 := Nat.le_trans (putG_len ..) (by have := g.l7; omega) }
  · exact g1
theorem Gk.leave (g : Gk n line k R) : Gd (n + 1) (line + 1) (stLeave R line) := by
  have g1 := g.to
  unfold stLeave
  split
  · exact { g1 with l8 := Nat.le_trans (putG_len ..) (by have := g.l8; omega) }
  · exact g1
theorem Gk.endL (g : Gk n line k R) : Gd (n + 1) (line + 1) (stEnd R line) := by
  have g1 := g.to
  unfold stEnd
  split
  · split
    · exact { g1 with l10 := Nat.le_trans (putG_len ..) (by have := g.l10; omega) }
    · exact g1
  · rename_i first _
    refine { g1 with l5 := ?_, l11 := ?_, bt := fun b hb => g.bt b (List.dropLast_subset _ hb), bl := fun b hb => g1.bl b (List.dropLast_subset _ hb) }
    · have h1 := putG_len R.partners first line
      have h2 := putG_len (putG R.partners first line) line first
      have := g.l5
      show (putG (putG R.partners first line) line first).length ≤ 2 * (n + 1)
      omega
    · show R.blocks.dropLast.length ≤ n + 1
      rw [List.length_dropLast]
      have := g.l11
      omega
theorem Gk.orL {q : Addr} (g : Gk n line k R) : Gd (n + 1) (line + 1) (stOr R line q) := by
  have g1 := g.to
  unfold stOr
  split
  · exact g1
  · rename_i first _
    split
    · rename_i x hx
      have hxl := g.os _ (look_mem hx)
      refine { g1 with l5 := ?_, l6 := Nat.le_trans (putG_len ..) (by have := g.l6; omega), os := fun y hy => ?_, bt := fun b hb => ?_ }
      · have h1 := putG_len R.partners line first
        have := g.l5
        show (putG R.partners line first).length ≤ 2 * (n + 1)
        omega
      · rcases mem_putG hy with z | hy
        · rw [z]
          show (x.2 ++ [line]).length ≤ n + 1
          rw [List.length_append]
          exact Nat.succ_le_succ hxl
        · exact g1.os y hy
      · obtain ⟨kd, hk, ho⟩ := g.bt b hb
        refine ⟨kd, hk, fun z => ?_⟩
        show (look (putG R.ors first (q, x.2 ++ [line])) b).isSome = true
        rw [look_putG]
        split
        · rfl
        · exact ho z
    · exact g1
theorem Gk.block {q : Addr} (g : Gk n line k R) : Gd (n + 1) (line + 1) (stBlock R k line q) := by
  have g1 := g.to
  have hl : (R.blocks ++ [line]).length ≤ n + 1 := by rw [List.length_append]; exact Nat.succ_le_succ g.l11
  have hb : ∀ b ∈ R.blocks ++ [line], b < line + 1 := fun b hb => by
    rcases List.mem_append.mp hb with hb | hb
    · have := g.bl b hb
      omega
    · rw [List.mem_singleton.mp hb]
      omega
  unfold stBlock
  split
  · refine { g1 with l11 := hl, bl := hb, l6 := Nat.le_trans (putG_len ..) (by have := g.l6; omega), os := fun y hy => ?_, bt := fun b hb => ?_ }
    · rcases mem_putG hy with z | hy
      · rw [z]
        exact Nat.zero_le _
      · exact g1.os y hy
    · have lk : ∀ b, (look (putG R.ors line (q, ([] : List Int))) b).isSome = true ∨ look (putG R.ors line (q, ([] : List Int))) b = look R.ors b := fun b => by
        rw [look_putG]
        split
        · exact .inl rfl
        · exact .inr rfl
      rcases List.mem_append.mp hb with hb | hb
      · obtain ⟨kd, hk, ho⟩ := g.bt b hb
        refine ⟨kd, hk, fun z => ?_⟩
        rcases lk b with e | e
        · exact e
        · exact (congrArg Option.isSome e).trans (ho z)
      · rw [List.mem_singleton.mp hb]
        refine ⟨k, g.kk, fun _ => ?_⟩
        show (look (putG R.ors line (q, ([] : List Int))) line).isSome = true
        rw [look_putG, if_pos rfl]
        rfl
  · rename_i hk
    refine { g1 with l11 := hl, bl := hb, bt := fun b hb => ?_ }
    rcases List.mem_append.mp hb with hb | hb
    · exact g.bt b hb
    · rw [List.mem_singleton.mp hb]
      exact ⟨k, g.kk, fun z => absurd z hk⟩
theorem Gk.ins {it : Str → Option (Str × Str)} {q : Addr} {r : List Str} (g : Gk n line k R) : Gd (n + 1) (line + 1) (stIns it R line q (k :: r)) := by
  by_cases h1 : k = ("do" : Str)
  · rw [show stIns it R line q (k :: r) = stDo it R line q (k :: r) from if_pos h1]
    exact g.doL
  by_cases h2 : k = ("call" : Str)
  · rw [show stIns it R line q (k :: r) = stCall R line r from (if_neg h1).trans (if_pos h2)]
    exact g.call
  by_cases h3 : k = ("end" : Str)
  · rw [show stIns it R line q (k :: r) = stEnd R line from ((if_neg h1).trans (if_neg h2)).trans (if_pos h3)]
    exact g.endL
  by_cases h4 : k = ("or" : Str)
  · rw [show stIns it R line q (k :: r) = stOr R line q from (((if_neg h1).trans (if_neg h2)).trans (if_neg h3)).trans (if_pos h4)]
    exact g.orL
  by_cases h5 : k = ("leave" : Str)
  · rw [show stIns it R line q (k :: r) = stLeave R line from ((((if_neg h1).trans (if_neg h2)).trans (if_neg h3)).trans (if_neg h4)).trans (if_pos h5)]
    exact g.leave
  by_cases h6 : k ∈ (["either", "loop", "ever"] : List Str)
  · rw [show stIns it R line q (k :: r) = stBlock R k line q from (((((if_neg h1).trans (if_neg h2)).trans (if_neg h3)).trans (if_neg h4)).trans (if_neg h5)).trans (if_pos h6)]
    exact g.block
  · rw [show stIns it R line q (k :: r) = R from (((((if_neg h1).trans (if_neg h2)).trans (if_neg h3)).trans (if_neg h4)).trans (if_neg h5)).trans (if_neg h6)]
    exact g.to
theorem Gd.step {nm pr : Str → Bool} {val : Str → Int} {it : Str → Option (Str × Str)} {q : Addr} {ws : List Str} (g : Gd n line R) (h : okLine nm pr val it R line ws = true) : Gd (n + 1) (line + 1) (stLine nm pr val it R line q ws) := by
  match ws, h with
  | [], h => cases h
  | w0 :: r, h =>
    by_cases h1 : w0 = ("mode" : Str)
    · rw [show stLine nm pr val it R line q (w0 :: r) = stMode nm pr val (noteK R line w0) q (w0 :: r) from if_pos h1]
      exact (g.note w0).mode ((if_pos h1 : okLine nm pr val it R line (w0 :: r) = _).symm.trans h)
    by_cases h2 : w0 = ("start" : Str)
    · rw [show stLine nm pr val it R line q (w0 :: r) = stStart (noteK R line w0) (w0 :: r) from (if_neg h1).trans (if_pos h2)]
      exact (g.note w0).start
    by_cases h3 : w0 = ("proc" : Str)
    · rw [show stLine nm pr val it R line q (w0 :: r) = stProc (noteK R line w0) line (w0 :: r) from ((if_neg h1).trans (if_neg h2)).trans (if_pos h3)]
      exact (g.note w0).proc
    cases ho : R.owner with
    | none =>
      have es : stLine nm pr val it R line q (w0 :: r) = R := (((if_neg h1).trans (if_neg h2)).trans (if_neg h3)).trans (by rw [ho])
      rw [es]
      exact g.mono (Nat.le_succ _) (by omega)
    | some o =>
      have es : stLine nm pr val it R line q (w0 :: r) = stIns it { noteK R line w0 with owners := putG R.owners line o } line q (w0 :: r) := (((if_neg h1).trans (if_neg h2)).trans (if_neg h3)).trans (by rw [ho])
      rw [es]
      exact (g.noteO w0 o).ins
end
theorem Gd.sm {n : Nat} {line : Int} {R : RdM} (g : Gd n line R) (h : n < 400) : Sm R := by
  obtain ⟨l0, l1, l2, l3, l4, l5, l6, l7, l8, l9, l10, l11, mo, os, bt, bl⟩ := g
  exact ⟨by omega, by omega, by omega, by omega, by omega, by omega, by omega, by omega, by omega, by omega, by omega, by omega⟩
theorem Gd.sm2 {n : Nat} {line : Int} {R : RdM} (g : Gd n line R) (h : n < 400) : Sm2 R := ⟨fun x hx => by have := g.mo x hx; omega, fun x hx => by have := g.os x hx; omega⟩
/-! ### a text's rows are read one by one -/
/-- what is to be shown of the rows from the present line on: Bad of the first wrong line's number, or Fin of the tables at the end -/
def RunW (nm pr : Str → Bool) (val : Str → Int) (it : Str → Option (Str × Str)) (wd : Str → List Str) (Fin : RdM → Prop) (Bad : Int → Prop) : List Str → RdM → Int → Prop
  | [], R, _ => Fin R
  | row :: rows, R, line => (wd row = [] → RunW nm pr val it wd Fin Bad rows R (line + 1)) ∧ (wd row ≠ [] → (okLine nm pr val it R line (wd row) = false → Bad line) ∧ (okLine nm pr val it R line (wd row) = true → ∀ q, RunW nm pr val it wd Fin Bad rows (stLine nm pr val it R line q (wd row)) (line + 1)))
theorem x_ienumS {K : PySem.W.Frag} {c : Int} {te : TE} {σ : L2.St} {H : Hp} {R : It → Hp → Prop} (h : tCons te tNil σ H fun vs H1 => ∃ (a : Addr) (xs : List V), vs = [V.ref a] ∧ SqL K H1 a xs ∧ R (IteS K a c) H1) : iEnumS K c (tCons te tNil) σ H R := h
theorem Same.fro {H H1 H2 : Hp} {p : Addr} {ad : Nat → Addr} (s : Same H H1) (f : Fro p ad H1 H2) (hp : H p = none) (ha : ∀ j, j < 12 → H (ad j) = none) : Same H H2 := fun b o e =>
  f b o (s b o e) (fun z => by rw [z, hp] at e; cases e) fun j hj z => by rw [z, ha j hj] at e; cases e
theorem x_ivals {td : TE} {σ : L2.St} {H : Hp} {R : It → Hp → Prop} (h : td σ H fun x H1 => ∃ (d : Addr) (o : Obj) (kvs : List (Key × V)), x = V.ref d ∧ H1 d = some (.frz o (.dK kvs)) ∧ R (Itd d o kvs) H1) : iVals td σ H R := h
theorem r_rdO {K : PySem.W.Frag} {C dx : Addr} {H : Hp} {p : Addr} {ad : Nat → Addr} {o : Option Str} {f : Str} {v : V} {Q : VK} (e : H p = some (.ins C dx (rflds ad o))) (T : RdTxt K C) (hm : f ∈ rall) (hl : (rflds ad o).lookup f = some v) (h : Q v H) : rFld K f (.ref p) H Q :=
  ⟨p, C, dx, _, v, rfl, e, T.cl, T.na f hm, hl, h⟩
/-- behind a lock all is as it was, and the new list stands -/
theorem same_lock {H : Hp} {d D : Addr} {u w : HO} {od : Obj} (e : H d = some u) (hD : upd H d (.frz od u) D = none) : Same H (upd (upd (upd H d (.frz od u)) D w) d u) ∧ upd (upd (upd H d (.frz od u)) D w) d u D = some w := by
  have hne : D ≠ d := fun z => by rw [z, upd_same] at hD; cases hD
  refine ⟨fun b o q => ?_, by rw [upd_ne hne]; exact upd_same⟩
  by_cases z : b = d
  · subst z
    rw [upd_same, ← q, e]
  · rw [upd_ne z, upd_ne (fun y => by rw [← y, upd_ne z, q] at hD; cases hD), upd_ne z]
    exact q
def missL (R : RdM) (l : List (Int × Str)) : List V := (l.filter fun x => !(look R.routines x.2).isSome).map fun x => V.str x.2
theorem miss_none {R : RdM} (h : (missL R R.calls).isEmpty = true) : ∀ x ∈ R.calls, (look R.routines x.2).isSome = true := by
  intro x hx
  unfold missL at h
  rw [List.isEmpty_map, List.isEmpty_iff, List.filter_eq_nil_iff] at h
  have := h x hx
  cases e : look R.routines x.2 with
  | none => rw [e] at this; exact absurd rfl this
  | some v => rfl
theorem miss_some {R : RdM} (h : (missL R R.calls).isEmpty = false) : ¬ ∀ x ∈ R.calls, (look R.routines x.2).isSome = true := by
  intro z
  unfold missL at h
  rw [List.isEmpty_map] at h
  have : (R.calls.filter fun x => !(look R.routines x.2).isSome) = [] := by
    rw [List.filter_eq_nil_iff]
    intro a ha
    rw [z a ha]
    decide
  rw [this] at h
  cases h
theorem missL_t {R : RdM} {l : List (Int × Str)} {i : Nat} {c : Int × Str} (h : l[i]? = some c) (hs : (look R.routines c.2).isSome = false) : missL R (l.take (i + 1)) = missL R (l.take i) ++ [V.str c.2] := by
  unfold missL
  rw [List.take_add_one, h, List.filter_append, List.map_append]
  show _ ++ (([c] : List (Int × Str)).filter _).map _ = _
  rw [List.filter_cons_of_pos (by rw [hs]; rfl)]
  rfl
theorem missL_f {R : RdM} {l : List (Int × Str)} {i : Nat} {c : Int × Str} (h : l[i]? = some c) (hs : (look R.routines c.2).isSome = true) : missL R (l.take (i + 1)) = missL R (l.take i) := by
  unfold missL
  rw [List.take_add_one, h, List.filter_append, List.map_append]
  show _ ++ (([c] : List (Int × Str)).filter _).map _ = _
  rw [List.filter_cons_of_neg (by rw [hs]; decide)]
  simp
theorem missL_len (R : RdM) (l : List (Int × Str)) : (missL R l).length ≤ l.length := by
  unfold missL
  rw [List.length_map]
  exact List.length_filter_le ..
end MP
end
section
open PySem L2 MPX MP
local macro_rules | `(tactic| walk_at "rd1") => `(tactic| first
  | with_reducible refine x_seq ?_
  | with_reducible refine x_next ?_
  | with_reducible refine x_ret ?_
  | with_reducible refine x_retN ?_
  | with_reducible refine x_ifs ?_
  | with_reducible refine x_asg ?_
  | with_reducible refine x_drop ?_
  | with_reducible refine x_name ?_
  | ((with_reducible refine' x_var ?vv ?_); (case vv => exact rfl))
  | with_reducible refine x_c ?_
  | with_reducible refine x_op ?_
  | with_reducible refine x_un ?_
  | with_reducible refine x_test ?_
  | with_reducible refine x_tB ?_
  | with_reducible refine x_and ?_
  | with_reducible refine x_or ?_
  | with_reducible refine x_not ?_
  | with_reducible refine x_andV ?_
  | with_reducible refine x_orV ?_
  | with_reducible refine x_notV ?_
  | with_reducible refine x_if ?_
  | with_reducible refine x_nil ?_
  | with_reducible refine x_cons ?_
  | with_reducible refine x_tup ?_
  | with_reducible refine x_lst ?_
  | with_reducible refine x_cb ?_
  | with_reducible refine x_call ?_
  | with_reducible refine x_callS ?_
  | with_reducible refine x_callP ?_
  | with_reducible refine x_mk0 ?_
  | with_reducible refine x_mk1 ?_
  | with_reducible refine x_mk2 ?_
  | with_reducible refine x_make ?_
  | with_reducible refine x_sfld ?_
  | with_reducible refine x_din ?_
  | with_reducible refine x_dnin ?_
  | with_reducible refine x_fldS ?_
  | with_reducible refine x_sl3 ?_
  | ((with_reducible refine' r_rd ?vr ?vt ?vm ?vl ?vq); (case vr => (with_reducible assumption)); (case vt => assumption); (case vm => decide +kernel); (case vl => exact rfl))
  | with_reducible refine x_m0 ?_
  | with_reducible refine x_m1 ?_
  | with_reducible refine x_bm0 ?_
  | with_reducible refine x_bm ?_
  | with_reducible refine x_par ?_
  | with_reducible refine x_ilist ?_
  | with_reducible refine x_itup ?_
  | with_reducible refine x_istr ?_
  | ((with_reducible show tLc _ _ _ _ _ _ _ _); unfold tLc)
  | ((with_reducible show tFor _ _ _ _ _ _); unfold tFor)
  | ((with_reducible refine' x_eq ?vv ?_); (case vv => exact rfl))
  | ((with_reducible refine' x_ne ?vv ?_); (case vv => exact rfl))
  | with_reducible refine x_rI0 ?_
  | with_reducible refine x_dgetR ?_
  | with_reducible refine x_dputR ?_
  | with_reducible refine x_dnew ?_
  | with_reducible refine x_dget1 ?_
  | with_reducible refine x_dget2 ?_
  | with_reducible refine x_sl ?_
  | with_reducible refine x_nopart ?_
  | with_reducible refine x_part ?_
  | ((with_reducible refine' x_slL ?vv ?_); (case vv => (with_reducible assumption)))
  | with_reducible refine x_disp ?_
  | with_reducible refine x_pcons ?_
  | with_reducible refine x_pnil ?_
  | ((with_reducible refine' x_mod ?vv ?_); (case vv => omega); intro r er hr0 hr1; (try clear er))
  | ((with_reducible refine' x_rI ?vv ?_); (case vv => walk_at "sc"))
  | (with_reducible refine Or.inl (Exists.intro _ (And.intro rfl ?_)))
  | with_reducible refine x_T ?_
  | with_reducible refine x_F ?_
  | ((with_reducible show Exists (α := V) _); (with_reducible apply Exists.intro))
  | ((with_reducible show Exists (α := Bool) _); (with_reducible apply Exists.intro))
  | ((with_reducible show Exists (α := Nat) _); (with_reducible apply Exists.intro))
  | ((with_reducible show Exists (α := Int) _); (with_reducible apply Exists.intro))
  | ((with_reducible show Exists (α := List V) _); (with_reducible apply Exists.intro))
  | ((with_reducible show Exists (α := PySem.Str) _); (with_reducible apply Exists.intro))
  | ((with_reducible show Exists (α := Option V) _); (with_reducible apply Exists.intro))
  | ((with_reducible show Exists (α := Option Int) _); (with_reducible apply Exists.intro))
  | ((with_reducible show Exists (α := List (Key × V)) _); (with_reducible apply Exists.intro))
  | refine And.intro rfl ?_
  | ((with_reducible refine And.intro ?vv ?_); (case vv => (first | (with_reducible assumption) | (show _ ≤ sizeLine; decide) | exact len_ok rfl)))
  | (refine And.intro (Exists.intro _ rfl) ?_))
local macro_rules | `(tactic| walk_at "sc") => `(tactic| first
  | (with_reducible assumption)
  | exact divW (by omega) (by omega)
  | exact mulW (by omega) (by omega)
  | exact Or.inl ⟨by omega, by omega⟩
  | exact Or.inr ⟨by omega, by omega⟩
  | (show (_ : Int) ≠ 0; omega)
  | exact ⟨by decide, by decide, by decide⟩
  | decide)
local macro_rules | `(tactic| walk_at "rd") => `(tactic| repeat walk_at "rd1")
namespace MP
open PySem L2
section
variable {P : Program} {w : World} {K : PySem.W.Frag} {mg : Str → Option Value} {base : Heap} {ts : Nat → Tok} {kw C CB CT : Addr}
structure TextTxt (P : Program) (K : PySem.W.Frag) (mg : Str → Option Value) (ts : Nat → Tok) (C CB CT : Addr) : Prop extends ReadTxt K mg ts C where
  e_BadText : Exc1 P K mg "BadText" CB "line"
  e_TooMany : Exc1 P K mg "TooMany" CT "what"
/-- all is told, at the end of a text -/
def endOk (R : RdM) : Prop := R.owner = none ∧ (look R.routines ("main" : Str)).isSome = true ∧ ∀ x ∈ R.calls, (look R.routines x.2).isSome = true
def ErrD (C : Addr) (f : Str) (v : V) (H : Hp) (E : XK) : Prop := ∀ d H', Same H H' → H' d = some (.xd [(f, v)]) → E (.ref C) (some d) H'
def sp_read_text (C CB CT : Addr) : Sp := fun vs H Q E => ∃ (z : Str), vs = [.str z] ∧ z.length + 2 ≤ sizeLine ∧ (6000 < z.length → ErrD CT "what" (.str "characters") H E) ∧ (z.length ≤ 6000 → 120 < (PySem.Txt.split z "\n").length → ErrD CT "what" (.str "lines") H E) ∧
  (z.length ≤ 6000 → (PySem.Txt.split z "\n").length ≤ 120 → RunW isName isPrice priceOf itemOf wordsOf
    (fun R => (endOk R → Sm R → Sm2 R → ∀ p ad H', Same H H' → RdAt C H' p ad R → Q (.ref p) H') ∧ (¬ endOk R → ErrD CB "line" (.int ((PySem.Txt.split z "\n").length + 1)) H E)) (fun line => ErrD CB "line" (.int line) H E) (PySem.Txt.split z "\n") RdM.empty 1)
theorem ok_read_text {f : Addr} {fd : FuncData} (F : Fun K "read_text" "read_text" s_read_text f fd) (T : TextTxt P K mg ts C CB CT) (c_words_of : Cal P w K mg base 1 "words_of" sp_words_of) (c_read_line : Cal P w K mg base 6 "read_line" (sp_read_line K C)) (c_Reading : CalM P w K mg base 1 "Reading" C (sp_init C)) : FnOk P w K mg base (L2.CX P w) 7 f fd P_read_text (sp_read_text C CB CT) := by
  refine F.okX sc_read_text (fun vs H Q E h => ?_) (fun cdv A outer s H vs Q E hr h => ?_)
  · obtain ⟨z, rfl, _⟩ := h
    rfl
  · obtain ⟨z, rfl, hz, kc, kl, kr⟩ := h
    have hu := hu_of hr
    have Tr := T.rd
    refine ⟨_, (pss_cons (ps_if (pt_cmpR op_gt (pe_callB call_len_str (by rfl) T.b_len (by decide +kernel) (pa_cons (pv 0) pa_nil)) (pe_glob (v := V.int _) rfl T.g_MOST_CHARACTERS ⟨_, rfl⟩) (nomark _)) (pss_one (ps_raise rfl (takes_of rfl rfl rfl rfl) (pmk_x1 T.e_TooMany hr (pa_cons pe_str pa_nil) rfl))) pss_nil)
      (pss_cons (ps_set (i := 1) sc_read_text.nd rfl (Or.inl rfl) (pe_split (pv 0) pe_str))
      (pss_cons (ps_if (pt_cmpR op_gt (pe_callB call_len_seq (by rfl) T.b_len (by decide +kernel) (pa_cons (pv 1) pa_nil)) (pe_glob (v := V.int _) rfl T.g_MOST_LINES ⟨_, rfl⟩) (nomark _)) (pss_one (ps_raise rfl (takes_of rfl rfl rfl rfl) (pmk_x1 T.e_TooMany hr (pa_cons pe_str pa_nil) rfl))) pss_nil)
      (pss_cons (ps_set (i := 2) sc_read_text.nd rfl (Or.inr rfl) (pe_cm0 c_Reading hr (by decide) rfl))
      (pss_cons (ps_for (passes_of rfl) rfl (pi_enumS (by rfl) T.b_enumerate (pa_cons (pv 1) pa_nil) (by decide) (by decide) (by decide)) (pg_tup rfl (pgs_cons (pg_name (i := 3) sc_read_text.nd rfl (Or.inl rfl)) (pgs_cons (pg_name (i := 4) sc_read_text.nd rfl (Or.inl rfl)) pgs_nil)))
      (pss_cons (ps_set (i := 5) sc_read_text.nd rfl (Or.inl rfl) (pe_cc c_words_of hr (by decide) rfl (pa_cons (pv 4) pa_nil)))
      (pss_one (ps_if (PW.pt (pw_and (pt_cmpR (op_neE hr.units) (pv 5) (pe_lst pa_nil) (nomark _)) (pw_and1 (pt_not (pt_val (pe_cc c_read_line hr (by decide) rfl (pa_cons (pv 2) (pa_cons (pv 5) (pa_cons (pv 3) pa_nil))))))))) (pss_one (ps_raise rfl (takes_of rfl rfl rfl rfl) (pmk_x1 T.e_BadText hr (pa_cons (pv 3) pa_nil) rfl))) pss_nil))))
      (pss_cons (ps_lock (ps_setLc (i := 6) (own := [("name", 7)]) (g := gName 7) rfl sc_read_text.nd rfl rfl (sw_true rfl rfl rfl (by decide +kernel)) (pi_values (pe_fld (pv 2) rfl)) (blkOk_by (own := [("name", 7)]) (N := N_read_text) (sc := defScope s_read_text) (by decide +kernel)) (fun _ _ _ _ _ => (pg_name (i := 7) sc_read_text.nd rfl (Or.inl rfl))) (fun _ _ _ _ _ => (pts_one (pt_cmp (pc_dnotin hu (pv 7) (pe_fldK (rfl : _ = K) (pv 2) rfl))))) (fun _ _ _ _ _ => (pv 7))))
      (pss_cons (ps_if (PW.pt (pw_or (pt_cmpR op_notN (pe_fld (pv 2) rfl) pe_non (nomark _)) (pw_or (pt_cmp (pc_dnotin hu pe_str (pe_fld (pv 2) rfl))) (pw_or1 (pt_cmpR (op_neE hr.units) (pv 6) (pe_lst pa_nil) (nomark _)))))) (pss_one (ps_raise rfl (takes_of rfl rfl rfl rfl) (pmk_x1 T.e_BadText hr (pa_cons (pe_op op_add (pe_callB call_len_seq (by rfl) T.b_len (by decide +kernel) (pa_cons (pv 1) pa_nil)) pe_int) pa_nil) rfl))) pss_nil)
      (pss_one (ps_ret (pv 2)))))))))), ?_⟩
    show tSeq _ _ _ [some (V.str z), none, none, none, none, none, none, none] H
    walk_at "rd"
    refine ⟨by omega, ?_⟩
    walk_at "rd"
    refine x_D (fun h1 => ?_) (fun h1 => ?_)
    · walk_at "rd"
      intro d nd
      exact kc (by omega) d _ (same_upd nd) upd_same
    have h1' : z.length ≤ 6000 := by omega
    walk_at "rd"
    intro lp nlp
    generalize eH : upd H lp _ = H1
    have s1 : Same H H1 := eH ▸ same_upd nlp
    have e1 : H1 lp = some (.lst ((PySem.Txt.split z "\n").map V.str)) := eH ▸ upd_same
    clear eH
    have hrl : ∀ row ∈ PySem.Txt.split z "\n", row.length ≤ 6000 := fun row hm => Nat.le_trans (split_le (by decide +kernel) (by decide +kernel) hm) h1'
    generalize PySem.Txt.split z "\n" = rows at e1 kl kr hrl ⊢
    walk_at "rd"
    refine ⟨Or.inl (SqL.of e1), ?_⟩
    walk_at "rd"
    rw [List.length_map]
    refine x_D (fun h2 => ?_) (fun h2 => ?_)
    · walk_at "rd"
      intro d nd
      exact kl h1' (by omega) d _ (s1.trans (same_upd nd)) upd_same
    replace kr := kr h1' (by omega)
    have h120 : rows.length ≤ 120 := by omega
    clear kc kl
    walk_at "rd"
    intro p dx np ndx nex
    have np' : ∀ o, upd H1 dx o p = none := fun o => by rw [upd_ne (Ne.symm nex)]; exact np
    have s2 : ∀ o o', Same H1 (upd (upd H1 dx o) p o') := fun o o' => (same_upd ndx).trans (same_upd (np' o))
    refine ⟨p, dx, rfl, upd_same, fun ad H2 r hn hfr => ⟨rfl, ?_⟩⟩
    have s12 : Same H1 H2 := fun b o e => hfr _ _ (s2 _ _ _ _ e) (ne_of_none e np)
    have had : ∀ j, j < 12 → H1 (ad j) = none := fun j hj => by
      have h := hn j hj
      by_cases z1 : ad j = p
      · exact absurd z1.symm (r.np j hj)
      rw [upd_ne z1] at h
      by_cases z2 : ad j = dx
      · rw [z2, upd_same] at h; cases h
      · rw [upd_ne z2] at h; exact h
    walk_at "rd"
    have hs12 := s1.trans s12
    refine x_ienumS ?_
    walk_at "rd"
    refine ⟨SqL.of (s12 _ _ e1), for_it (walk_enumS (xs := rows.map V.str)) (fun i σ H' => Hold (∃ (R : RdM) (x3 x4 x5 x6 x7 : Option V), σ = [some (V.str z), some (V.ref lp), some (V.ref p), x3, x4, x5, x6, x7] ∧ RdAt C H' p ad R ∧ Gd i ((i : Int) + 1) R ∧
        RunW isName isPrice priceOf itemOf wordsOf (fun R => (endOk R → Sm R → Sm2 R → ∀ p ad H', Same H H' → RdAt C H' p ad R → Q (.ref p) H') ∧ (¬ endOk R → ErrD CB "line" (.int (rows.length + 1)) H E)) (fun line => ErrD CB "line" (.int line) H E) (rows.drop i) R ((i : Int) + 1) ∧ Same H1 H'))
      ⟨RdM.empty, none, none, none, none, none, rfl, r, Gd.start 0 _, (by rw [show (((0 : Nat) : Int) + 1) = 1 from rfl]; exact kr), s12⟩ (fun i σ H' _ ⟨_, _, _, _, _, _, _, _, _, _, s⟩ => SqL.of (s _ _ e1)) ?_ ?_⟩
    · clear kr r hfr hn
      rintro i v σ H' H'' hi ⟨R, x3, x4, x5, x6, x7, rfl, r, g, kr, s⟩ ⟨T1, vx, vy, rfl, nT, rfl, hx, hy⟩
      replace hx : some (V.int ((i : Nat) + 1)) = some vx := hx
      cases hx
      replace hy : (rows.map V.str)[i]? = some vy := hy
      rw [List.getElem?_map] at hy
      obtain ⟨row, hrow, rfl⟩ := Option.map_eq_some_iff.mp hy
      rw [drop_at hrow] at kr
      have hrm := List.mem_of_getElem? hrow
      have hrw := hrl row hrm
      have hil : i < rows.length := by rw [List.length_map] at hi; exact hi
      have sT : Same H' (upd H' T1 (.tup [V.int ((i : Nat) + 1), V.str row])) := same_upd nT
      refine x_gtup2 upd_same ?_
      walk_at "rd"
      refine ⟨row, rfl, by omega, fun wa H3 s3 n3 e3 => ?_⟩
      have rT := r.same sT
      have r3 := rT.same s3
      have s13 := (s.trans sT).trans s3
      walk_at "rd"
      intro el nel
      have s4 := same_upd (o := .lst []) nel
      have r4 := r3.same s4
      refine x_neE (SqL.of (s4 _ _ e3)) upd_same ?_
      rw [List.isEmpty_map]
      walk_at "rd"
      refine x_NB (fun h3 => ?_) (fun h3 => ?_)
      · obtain ⟨w0, r0, hw⟩ : ∃ a b, wordsOf row = a :: b := by
          cases e : wordsOf row with
          | nil => rw [e] at h3; cases h3
          | cons a b => exact ⟨a, b, rfl⟩
        have kr2 := kr.2 (by rw [hw]; exact fun z => by cases z)
        rw [hw] at kr2 e3
        have w1 : wa ≠ p := fun z => by
          obtain ⟨dx2, hob⟩ := rT.ob
          rw [← z, n3] at hob
          cases hob
        have w2 : (w0 :: r0).length < 10000 := by
          have h1 := split_len row " " (by decide +kernel) (by decide +kernel)
          have h2 : (wordsOf row).length ≤ (PySem.Txt.split row " ").length := List.length_filter_le _ _
          rw [hw] at h2
          omega
        have w3 : ∀ y ∈ w0 :: r0, y.length ≤ 10000 := fun y hy => by
          have hm : y ∈ wordsOf row := by rw [hw]; exact hy
          have hm2 : y ∈ PySem.Txt.split row " " := (List.mem_filter.mp hm).1
          have := split_le (x := row) (y := " ") (by decide +kernel) (by decide +kernel) hm2
          omega
        have wd : WdAt K (upd H3 el (.lst [])) p ad wa (w0 :: r0) := ⟨s4 _ _ e3, w1, rT.fresh n3, w2, w3⟩
        walk_at "rd"
        refine ⟨p, ad, R, wa, w0, r0, (i : Int) + 1, rfl, r4, g.sm (by omega), by have := g.l3; omega, by have := g.l4; omega, g.sm2 (by omega), g.bt, fun b hb => by have := g.bl b hb; omega, wd, fun hb H5 f5 => ?_, fun hb q H5 f5 r5 => ?_⟩
        · have S5 := MP.Same.fro (s13.trans s4) f5 np had
          walk_at "rd"
          refine x_cT rfl ?_
          walk_at "rd"
          intro d nd
          exact kr2.1 hb d _ ((s1.trans S5).trans (same_upd nd)) upd_same
        · have S5 := MP.Same.fro (s13.trans s4) f5 np had
          walk_at "rd"
          refine x_cF rfl ?_
          walk_at "rd"
          have el2 : ((i + 1 : Nat) : Int) + 1 = (i : Int) + 1 + 1 := by omega
          exact ⟨_, _, _, _, _, _, rfl, r5, el2 ▸ g.step hb, el2 ▸ kr2.2 hb q, S5⟩
      · walk_at "rd"
        have hw : wordsOf row = [] := List.isEmpty_iff.mp h3
        have el2 : ((i + 1 : Nat) : Int) + 1 = (i : Int) + 1 + 1 := by omega
        exact ⟨R, _, _, _, _, _, rfl, r4, el2 ▸ g.mono (Nat.le_succ _) (by omega), el2 ▸ kr.1 hw, s13.trans s4⟩
    · rintro σ H' ⟨R, x3, x4, x5, x6, x7, rfl, r, g, kr, s⟩
      walk_at "rd"
      rw [List.length_map, List.drop_of_length_le (Nat.le_refl _)] at kr
      obtain ⟨kF, kB⟩ := kr
      have hHH := s1.trans s
      have hc : R.calls.length < 1000 := (g.sm (by rw [List.length_map]; omega)).s7
      refine ⟨ad 7, .dK (kI V.str R.calls), r.t7, trivial, fun od => ?_⟩
      obtain ⟨dx2, hob⟩ := r.ob
      have hobL : upd H' (ad 7) (.frz od (.dK (kI V.str R.calls))) p = some (.ins C dx2 (rflds ad R.owner)) := by rw [upd_ne (r.np 7 (by decide))]; exact hob
      have hrtL : upd H' (ad 7) (.frz od (.dK (kI V.str R.calls))) (ad 2) = some (.dK (kS V.int R.routines)) := by rw [upd_ne (fun z => absurd (r.inj 2 7 (by decide) (by decide) z) (by decide))]; exact r.t2
      walk_at "rd"
      refine x_ivals ?_
      walk_at "rd"
      refine r_rdO hobL T.rd (by decide +kernel) rfl ?_
      refine ⟨ad 7, od, _, rfl, upd_same, fun D hD => ?_⟩
      have hD7 : D ≠ ad 7 := fun z => by rw [z, upd_same] at hD; cases hD
      refine lc_it walk_values (fun i H3 => Hold (H3 = upd (upd H' (ad 7) (.frz od (.dK (kI V.str R.calls)))) D (.lst (missL R (R.calls.take i))))) ⟨rfl⟩ (fun i H3 _ ⟨e⟩ => by rw [e, upd_ne (Ne.symm hD7)]; exact upd_same) ?_ ?_
      · rintro i v H3 H4 hi ⟨rfl⟩ ⟨rfl, k2, hk2⟩
        unfold kI at hk2
        rw [List.getElem?_map] at hk2
        obtain ⟨cc, hcc, e2⟩ := Option.map_eq_some_iff.mp hk2
        cases e2
        have hDp : p ≠ D := fun z => by rw [← z, hobL] at hD; cases hD
        have hD2 : ad 2 ≠ D := fun z => by rw [← z, hrtL] at hD; cases hD
        walk_at "rd"
        refine r_rdO (by rw [upd_ne hDp]; exact hobL) T.rd (by decide +kernel) rfl ?_
        refine r_dninS (by rw [upd_ne hD2]; exact hrtL) ?_
        walk_at "rd"
        refine x_NB (fun h5 => ?_) (fun h5 => ?_)
        · walk_at "rd"
          refine ⟨upd_same, ?_, ⟨?_⟩⟩
          · have := missL_len R (R.calls.take i)
            rw [List.length_take] at this
            have := big5
            omega
          · rw [upd_upd, missL_t hcc h5]
        · exact ⟨by rw [missL_f hcc h5]⟩
      · rintro H3 ⟨rfl⟩
        rw [kI_len, List.take_length]
        walk_at "rd"
        refine ⟨by rw [upd_ne (Ne.symm hD7)]; exact upd_same, ?_⟩
        obtain ⟨sL, eD⟩ := same_lock (w := .lst (missL R R.calls)) r.t7 hD
        generalize upd (upd (upd H' (ad 7) _) D _) (ad 7) _ = H6 at sL eD ⊢
        replace r := r.same sL
        walk_at "rd"
        refine x_ND (fun h6 => ?_) (fun h6 => ?_)
        · walk_at "rd"
          refine ⟨Or.inl (SqL.of (sL _ _ (s _ _ e1))), ?_⟩
          walk_at "rd"
          intro d nd
          exact kB (fun z => h6 (own_non.mpr z.1)) d _ ((hHH.trans sL).trans (same_upd nd)) (by rw [upd_same, List.length_map])
        have ho : R.owner = none := own_non.mp h6
        walk_at "rd"
        refine r_dninS r.t2 ?_
        walk_at "rd"
        refine x_NB (fun h7 => ?_) (fun h7 => ?_)
        · walk_at "rd"
          refine ⟨Or.inl (SqL.of (sL _ _ (s _ _ e1))), ?_⟩
          walk_at "rd"
          intro d nd
          exact kB (fun z => by rw [z.2.1] at h7; cases h7) d _ ((hHH.trans sL).trans (same_upd nd)) (by rw [upd_same, List.length_map])
        walk_at "rd"
        intro el nel
        have s7 := same_upd (o := .lst []) nel
        replace r := r.same s7
        refine x_neE (SqL.of (s7 _ _ eD)) upd_same ?_
        replace sL := sL.trans s7
        walk_at "rd"
        refine x_NB (fun h8 => ?_) (fun h8 => ?_)
        · walk_at "rd"
          refine ⟨Or.inl (SqL.of (sL _ _ (s _ _ e1))), ?_⟩
          walk_at "rd"
          intro d nd
          exact kB (fun z => miss_some h8 z.2.2) d _ ((hHH.trans sL).trans (same_upd nd)) (by rw [upd_same, List.length_map])
        walk_at "rd"
        exact kF ⟨ho, h7, miss_none h8⟩ (g.sm (by rw [List.length_map]; omega)) (g.sm2 (by rw [List.length_map]; omega)) p ad _ (hHH.trans sL) r
end
end MP
end
section
namespace MP
open PySem L2
/-! ### a program that was read -/
def pflds (ad : Nat → Addr) (z : Str) (mo pr bh fh : Addr) : List (Str × V) := [("text", .str z), ("modes", .ref mo), ("procedures", .ref pr), ("prices", .ref (ad 0)), ("begins", .ref (ad 1)), ("kinds", .ref (ad 3)), ("owners", .ref (ad 4)), ("partners", .ref (ad 5)), ("ors", .ref (ad 6)), ("calls", .ref (ad 7)), ("leaves", .ref (ad 8)), ("works", .ref (ad 9)), ("ends", .ref (ad 10)), ("behinds", .ref bh), ("firsts", .ref fh)]
def pall : List Str := ["text", "modes", "procedures", "prices", "begins", "kinds", "owners", "partners", "ors", "calls", "leaves", "works", "ends", "behinds", "firsts"]
structure PrgTxt (K : PySem.W.Frag) (CP : Addr) : Prop where
  cl : Cls K CP
  na : ∀ f ∈ pall, NoAttr K CP f
structure ProgAt (CP : Addr) (H : Hp) (x : Addr) (ad : Nat → Addr) (mo pr bh fh : Addr) (R : RdM) (z : Str) (be : List (Int × Int)) (fi : List (Str × Int)) : Prop where
  ob : ∃ dx, H x = some (.ins CP dx (pflds ad z mo pr bh fh))
  hmo : H mo = some (.tup ((R.modes.map (·.1)).map V.str))
  hpr : H pr = some (.tup ((R.routines.map (·.1)).map V.str))
  hbh : H bh = some (.dK (kI V.int be))
  hfh : H fh = some (.dK (kS V.int fi))
  tab : ∀ i, i < 11 → i ≠ 4 → H (ad i) = (tabs R)[i]?
  own : H (ad 4) = some (.dK (kI V.str R.owners)) ∨ ∃ o, H (ad 4) = some (.frz o (.dK (kI V.str R.owners)))
  dis : (∀ i, i < 11 → i ≠ 4 → ad i ≠ ad 4) ∧ bh ≠ ad 4 ∧ fh ≠ ad 4
  ne : NestOk H ad R
section
variable {CP : Addr} {H : Hp} {x : Addr} {ad : Nat → Addr} {mo pr bh fh : Addr} {R : RdM} {z : Str} {be : List (Int × Int)} {fi : List (Str × Int)}
theorem ProgAt.same {H' : Hp} (r : ProgAt CP H x ad mo pr bh fh R z be fi) (s : Same H H') : ProgAt CP H' x ad mo pr bh fh R z be fi := by
  obtain ⟨⟨dx, ho⟩, h1, h2, h3, h4, ht, hw, hd, hn⟩ := r
  refine ⟨⟨dx, s _ _ ho⟩, s _ _ h1, s _ _ h2, s _ _ h3, s _ _ h4, fun i h h' => ?_, hw.elim (fun e => .inl (s _ _ e)) (fun ⟨o, e⟩ => .inr ⟨o, s _ _ e⟩), hd, hn.mono fun b o e _ => s _ _ e⟩
  have e := ht i h h'
  cases q : (tabs R)[i]? with
  | none => exact absurd (List.getElem?_eq_none_iff.mp q) (by show ¬ 12 ≤ i; omega)
  | some o => rw [q] at e; exact s _ _ e
theorem ProgAt.t0 (r : ProgAt CP H x ad mo pr bh fh R z be fi) : H (ad 0) = some (.dK (kS (fun x => .ref x.1) R.modes)) := r.tab 0 (by decide) (by decide)
theorem ProgAt.t1 (r : ProgAt CP H x ad mo pr bh fh R z be fi) : H (ad 1) = some (.dK (kS V.str R.begins)) := r.tab 1 (by decide) (by decide)
theorem ProgAt.t3 (r : ProgAt CP H x ad mo pr bh fh R z be fi) : H (ad 3) = some (.dK (kI V.str R.kinds)) := r.tab 3 (by decide) (by decide)
theorem ProgAt.t5 (r : ProgAt CP H x ad mo pr bh fh R z be fi) : H (ad 5) = some (.dK (kI V.int R.partners)) := r.tab 5 (by decide) (by decide)
theorem ProgAt.t6 (r : ProgAt CP H x ad mo pr bh fh R z be fi) : H (ad 6) = some (.dK (kI (fun x => .ref x.1) R.ors)) := r.tab 6 (by decide) (by decide)
theorem ProgAt.t7 (r : ProgAt CP H x ad mo pr bh fh R z be fi) : H (ad 7) = some (.dK (kI V.str R.calls)) := r.tab 7 (by decide) (by decide)
theorem ProgAt.t8 (r : ProgAt CP H x ad mo pr bh fh R z be fi) : H (ad 8) = some (.dK (kI V.int R.leaves)) := r.tab 8 (by decide) (by decide)
theorem ProgAt.t9 (r : ProgAt CP H x ad mo pr bh fh R z be fi) : H (ad 9) = some (.dK (kI (fun x => .ref x.1) R.works)) := r.tab 9 (by decide) (by decide)
/-- the owners' table locked -/
theorem ProgAt.lock4 (r : ProgAt CP H x ad mo pr bh fh R z be fi) (od : Obj) : ProgAt CP (upd H (ad 4) (.frz od (.dK (kI V.str R.owners)))) x ad mo pr bh fh R z be fi := by
  obtain ⟨⟨dx, ho⟩, h1, h2, h3, h4, ht, hw, hd, hn⟩ := r
  have ne : ∀ b o, H b = some o → (∀ kvs, o ≠ .dK kvs) → (∀ q kvs, o ≠ .frz q (.dK kvs)) → b ≠ ad 4 := fun b o e n1 n2 z => by
    subst z
    rcases hw with q | ⟨_, q⟩
    · rw [q] at e
      cases e
      exact n1 _ rfl
    · rw [q] at e
      cases e
      exact n2 _ _ rfl
  refine ⟨⟨dx, by rw [upd_ne (ne _ _ ho (fun _ z => by cases z) fun _ _ z => by cases z)]; exact ho⟩, by rw [upd_ne (ne _ _ h1 (fun _ z => by cases z) fun _ _ z => by cases z)]; exact h1, by rw [upd_ne (ne _ _ h2 (fun _ z => by cases z) fun _ _ z => by cases z)]; exact h2, by rw [upd_ne hd.2.1]; exact h3, by rw [upd_ne hd.2.2]; exact h4, fun i h h' => by rw [upd_ne (hd.1 i h h')]; exact ht i h h', .inr ⟨od, upd_same⟩, hd, ⟨fun y hy => ⟨by rw [upd_ne ((hn.mo y hy).2 4 (by decide))]; exact (hn.mo y hy).1, (hn.mo y hy).2⟩, fun y hy => ⟨by rw [upd_ne ((hn.os y hy).2 4 (by decide))]; exact (hn.os y hy).1, (hn.os y hy).2⟩, fun y hy => ⟨by rw [upd_ne ((hn.wo y hy).2 4 (by decide))]; exact (hn.wo y hy).1, (hn.wo y hy).2⟩⟩⟩
theorem r_pg {K : PySem.W.Frag} {f : Str} {v : V} {Q : VK} (r : ProgAt CP H x ad mo pr bh fh R z be fi) (T : PrgTxt K CP) (hm : f ∈ pall) (hl : (pflds ad z mo pr bh fh).lookup f = some v) (h : Q v H) : rFld K f (.ref x) H Q := by
  obtain ⟨dx, e⟩ := r.ob
  exact ⟨x, CP, dx, _, v, rfl, e, T.cl, T.na f hm, hl, h⟩
/-- as much of a program as check_mode and prices_of read -/
structure ProgB (CP : Addr) (H : Hp) (x : Addr) (ad : Nat → Addr) (mo pr bh fh : Addr) (R : RdM) (z : Str) : Prop where
  ob : ∃ dx, H x = some (.ins CP dx (pflds ad z mo pr bh fh))
  hmo : H mo = some (.tup ((R.modes.map (·.1)).map V.str))
  t0 : H (ad 0) = some (.dK (kS (fun x => .ref x.1) R.modes))
theorem ProgAt.b (r : ProgAt CP H x ad mo pr bh fh R z be fi) : ProgB CP H x ad mo pr bh fh R z := ⟨r.ob, r.hmo, r.t0⟩
theorem r_pgB {K : PySem.W.Frag} {f : Str} {v : V} {Q : VK} (r : ProgB CP H x ad mo pr bh fh R z) (T : PrgTxt K CP) (hm : f ∈ pall) (hl : (pflds ad z mo pr bh fh).lookup f = some v) (h : Q v H) : rFld K f (.ref x) H Q := by
  obtain ⟨dx, e⟩ := r.ob
  exact ⟨x, CP, dx, _, v, rfl, e, T.cl, T.na f hm, hl, h⟩
/-- the same while a mode's own table is locked -/
theorem ProgAt.locked {y : Addr × List (Str × Int)} {m : Str} {o : HO} (r : ProgAt CP H x ad mo pr bh fh R z be fi) (hy : look R.modes m = some y) : ProgB CP (upd H y.1 o) x ad mo pr bh fh R z := by
  have hd := r.ne.mo _ (look_mem hy)
  obtain ⟨dx, e⟩ := r.ob
  refine ⟨⟨dx, ?_⟩, ?_, ?_⟩
  · rw [upd_ne (ne_of e hd.1 fun z => by cases z)]
    exact e
  · rw [upd_ne (ne_of r.hmo hd.1 fun z => by cases z)]
    exact r.hmo
  · rw [upd_ne (Ne.symm (hd.2 0 (by decide)))]
    exact r.t0
theorem look_mode {m : Str} : ∀ {l : List (Str × Addr × List (Str × Int))}, m ∈ l.map (·.1) → ∃ y, look l m = some y
  | [], h => by cases h
  | a :: r, h => by
    unfold look
    by_cases e : a.1 = m
    · exact ⟨a.2, if_pos e⟩
    · rw [if_neg e]
      rcases List.mem_cons.mp h with h | h
      · exact absurd h.symm e
      · exact look_mode h
end
/-- what item_at tells: None, or the item's value -/
def itemM (R : RdM) (m : Str) (line : Int) : Option Str := (look R.works line).bind fun y => look y.2 m
def optV : Option Str → V
  | none => .non
  | some v => .str v
/-- the last value behind the lines -/
def lastM (R : RdM) (m : Str) (ls : List Int) : Str := match ls.reverse.findSome? (itemM R m) with
  | some v => v
  | none => (look R.begins m).getD ("?" : Str)
theorem findSome_at {α β : Type} {f : α → Option β} {b : β} {a : α} : ∀ {l : List α} {i : Nat}, (∀ j < i, ∀ x, l[j]? = some x → f x = none) → l[i]? = some a → f a = some b → l.findSome? f = some b
  | [], i, _, h, _ => by simp at h
  | c :: r, 0, _, h, hb => by
    have e : c = a := by simpa using h
    rw [List.findSome?_cons, e, hb]
  | c :: r, i + 1, ha, h, hb => by
    have e := ha 0 (Nat.succ_pos i) c rfl
    rw [List.findSome?_cons, e]
    exact findSome_at (i := i) (fun j hj x hx => ha (j + 1) (by omega) x hx) (by simpa using h) hb
theorem findSome_no {α β : Type} {f : α → Option β} {l : List α} (h : ∀ j < l.length, ∀ x, l[j]? = some x → f x = none) : l.findSome? f = none := by
  rw [List.findSome?_eq_none_iff]
  intro x hx
  obtain ⟨j, hj, e⟩ := List.getElem_of_mem hx
  exact h j hj x (by rw [← e]; simp)
/-- what the lines need: prices of the items that the last value does not meet -/
def needL (R : RdM) (m : Str) (ps : List (Str × Int)) : List Int → Str → Int → Int
  | [], _, tot => tot
  | l :: r, last, tot => match itemM R m l with
    | none => needL R m ps r last tot
    | some v => needL R m ps r v (if v ≠ ("?" : Str) ∧ v ≠ last then tot + (look ps v).getD 0 else tot)
theorem x_ikeys {td : TE} {σ : L2.St} {H : Hp} {R : It → Hp → Prop} (h : td σ H fun x H1 => ∃ (d : Addr) (o : Obj), x = V.ref d ∧ ((∃ kvs : List (Key × V), H1 d = some (.frz o (.dK kvs)) ∧ R (Itk d o kvs) H1) ∨ ∃ kvs, H1 d = some (.frz o (.dT kvs)) ∧ R (Itkt d o kvs) H1)) : iKeys td σ H R := h
end MP
end
section
open PySem L2 MPX MP
local macro_rules | `(tactic| walk_at "rd1") => `(tactic| first
  | with_reducible refine x_seq ?_
  | with_reducible refine x_next ?_
  | with_reducible refine x_ret ?_
  | with_reducible refine x_retN ?_
  | with_reducible refine x_ifs ?_
  | with_reducible refine x_asg ?_
  | with_reducible refine x_drop ?_
  | with_reducible refine x_name ?_
  | ((with_reducible refine' x_var ?vv ?_); (case vv => exact rfl))
  | with_reducible refine x_c ?_
  | with_reducible refine x_op ?_
  | with_reducible refine x_un ?_
  | with_reducible refine x_test ?_
  | with_reducible refine x_tB ?_
  | with_reducible refine x_and ?_
  | with_reducible refine x_or ?_
  | with_reducible refine x_not ?_
  | with_reducible refine x_andV ?_
  | with_reducible refine x_orV ?_
  | with_reducible refine x_notV ?_
  | with_reducible refine x_if ?_
  | with_reducible refine x_nil ?_
  | with_reducible refine x_cons ?_
  | with_reducible refine x_tup ?_
  | with_reducible refine x_lst ?_
  | with_reducible refine x_cb ?_
  | with_reducible refine x_call ?_
  | with_reducible refine x_callS ?_
  | with_reducible refine x_callP ?_
  | with_reducible refine x_mk0 ?_
  | with_reducible refine x_mk1 ?_
  | with_reducible refine x_mk2 ?_
  | with_reducible refine x_make ?_
  | with_reducible refine x_sfld ?_
  | with_reducible refine x_din ?_
  | with_reducible refine x_dnin ?_
  | with_reducible refine x_fldS ?_
  | with_reducible refine x_sl3 ?_
  | ((with_reducible refine' r_pg ?vr ?vt ?vm ?vl ?vq); (case vr => (with_reducible assumption)); (case vt => assumption); (case vm => decide +kernel); (case vl => exact rfl))
  | with_reducible refine x_m0 ?_
  | with_reducible refine x_m1 ?_
  | with_reducible refine x_bm0 ?_
  | with_reducible refine x_bm ?_
  | with_reducible refine x_par ?_
  | with_reducible refine x_ilist ?_
  | with_reducible refine x_itup ?_
  | with_reducible refine x_istr ?_
  | ((with_reducible show tLc _ _ _ _ _ _ _ _); unfold tLc)
  | ((with_reducible show tFor _ _ _ _ _ _); unfold tFor)
  | ((with_reducible refine' x_eq ?vv ?_); (case vv => exact rfl))
  | ((with_reducible refine' x_ne ?vv ?_); (case vv => exact rfl))
  | with_reducible refine x_rI0 ?_
  | with_reducible refine x_dgetR ?_
  | with_reducible refine x_dputR ?_
  | with_reducible refine x_dnew ?_
  | with_reducible refine x_dget1 ?_
  | with_reducible refine x_dget2 ?_
  | with_reducible refine x_sl ?_
  | with_reducible refine x_nopart ?_
  | with_reducible refine x_part ?_
  | ((with_reducible refine' x_slL ?vv ?_); (case vv => (with_reducible assumption)))
  | with_reducible refine x_disp ?_
  | with_reducible refine x_pcons ?_
  | with_reducible refine x_pnil ?_
  | ((with_reducible refine' x_mod ?vv ?_); (case vv => omega); intro r er hr0 hr1; (try clear er))
  | ((with_reducible refine' x_rI ?vv ?_); (case vv => walk_at "sc"))
  | (with_reducible refine Or.inl (Exists.intro _ (And.intro rfl ?_)))
  | with_reducible refine x_T ?_
  | with_reducible refine x_F ?_
  | ((with_reducible show Exists (α := V) _); (with_reducible apply Exists.intro))
  | ((with_reducible show Exists (α := Bool) _); (with_reducible apply Exists.intro))
  | ((with_reducible show Exists (α := Nat) _); (with_reducible apply Exists.intro))
  | ((with_reducible show Exists (α := Int) _); (with_reducible apply Exists.intro))
  | ((with_reducible show Exists (α := List V) _); (with_reducible apply Exists.intro))
  | ((with_reducible show Exists (α := PySem.Str) _); (with_reducible apply Exists.intro))
  | ((with_reducible show Exists (α := Option V) _); (with_reducible apply Exists.intro))
  | ((with_reducible show Exists (α := Option Int) _); (with_reducible apply Exists.intro))
  | ((with_reducible show Exists (α := List (Key × V)) _); (with_reducible apply Exists.intro))
  | refine And.intro rfl ?_
  | ((with_reducible refine And.intro ?vv ?_); (case vv => (first | (with_reducible assumption) | (show _ ≤ sizeLine; decide) | exact len_ok rfl)))
  | (refine And.intro (Exists.intro _ rfl) ?_))
local macro_rules | `(tactic| walk_at "sc") => `(tactic| first
  | (with_reducible assumption)
  | exact divW (by omega) (by omega)
  | exact mulW (by omega) (by omega)
  | exact Or.inl ⟨by omega, by omega⟩
  | exact Or.inr ⟨by omega, by omega⟩
  | (show (_ : Int) ≠ 0; omega)
  | exact ⟨by decide, by decide, by decide⟩
  | decide)
local macro_rules | `(tactic| walk_at "rd") => `(tactic| repeat walk_at "rd1")
namespace MP
open PySem L2
section
variable {P : Program} {w : World} {K : PySem.W.Frag} {mg : Str → Option Value} {base : Heap} {ts : Nat → Tok} {CP CM : Addr}
abbrev s_check_mode : Stmt := topS 42
abbrev N_check_mode : List Str := ["program", "mode"]
abbrev P_check_mode : List Str := ["program", "mode"]
theorem sc_check_mode : FnScope N_check_mode P_check_mode (defScope s_check_mode) := ⟨rfl, rfl, rfl, by decide +kernel, rfl, by decide +kernel, by decide +kernel⟩
abbrev s_prices_of : Stmt := topS 43
abbrev N_prices_of : List Str := ["program", "mode"]
abbrev P_prices_of : List Str := ["program", "mode"]
theorem sc_prices_of : FnScope N_prices_of P_prices_of (defScope s_prices_of) := ⟨rfl, rfl, rfl, by decide +kernel, rfl, by decide +kernel, by decide +kernel⟩
abbrev s_item_at : Stmt := topS 44
abbrev N_item_at : List Str := ["program", "mode", "line"]
abbrev P_item_at : List Str := ["program", "mode", "line"]
theorem sc_item_at : FnScope N_item_at P_item_at (defScope s_item_at) := ⟨rfl, rfl, rfl, by decide +kernel, rfl, by decide +kernel, by decide +kernel⟩
abbrev s_Program_price : Stmt := inClass (topS 41) 3
abbrev N_Program_price : List Str := ["self", "mode", "value"]
abbrev P_Program_price : List Str := ["self", "mode", "value"]
theorem sc_Program_price : FnScope N_Program_price P_Program_price (defScope s_Program_price) := ⟨rfl, rfl, rfl, by decide +kernel, rfl, by decide +kernel, by decide +kernel⟩
abbrev s_Program_begin : Stmt := inClass (topS 41) 4
abbrev N_Program_begin : List Str := ["self", "mode"]
abbrev P_Program_begin : List Str := ["self", "mode"]
theorem sc_Program_begin : FnScope N_Program_begin P_Program_begin (defScope s_Program_begin) := ⟨rfl, rfl, rfl, by decide +kernel, rfl, by decide +kernel, by decide +kernel⟩
abbrev s_Program_item : Stmt := inClass (topS 41) 5
abbrev N_Program_item : List Str := ["self", "mode", "line"]
abbrev P_Program_item : List Str := ["self", "mode", "line"]
theorem sc_Program_item : FnScope N_Program_item P_Program_item (defScope s_Program_item) := ⟨rfl, rfl, rfl, by decide +kernel, rfl, by decide +kernel, by decide +kernel⟩
abbrev s_Program_choices : Stmt := inClass (topS 41) 2
abbrev N_Program_choices : List Str := ["self", "mode", "value"]
abbrev P_Program_choices : List Str := ["self", "mode"]
theorem sc_Program_choices : FnScope N_Program_choices P_Program_choices (defScope s_Program_choices) := ⟨rfl, rfl, rfl, by decide +kernel, rfl, by decide +kernel, by decide +kernel⟩
structure ModeTxt (P : Program) (K : PySem.W.Frag) (mg : Str → Option Value) (CP CM : Addr) : Prop where
  pg : PrgTxt K CP
  e_BadMode : Exc1 P K mg "BadMode" CM "mode"
def sp_check_mode (CP CM : Addr) : Sp := fun vs H Q E => ∃ (x : Addr) (ad : Nat → Addr) (mo pr bh fh : Addr) (R : RdM) (z : Str) (m : Str), vs = [.ref x, .str m] ∧ ProgB CP H x ad mo pr bh fh R z ∧ (m ∈ R.modes.map (·.1) → Q .non H) ∧ (m ∉ R.modes.map (·.1) → ErrD CM "mode" (.str m) H E)
theorem ok_check_mode {f : Addr} {fd : FuncData} (F : Fun K "check_mode" "check_mode" s_check_mode f fd) (T : ModeTxt P K mg CP CM) : FnOk P w K mg base (L2.CX P w) 3 f fd P_check_mode (sp_check_mode CP CM) := by
  refine F.okX sc_check_mode (fun vs H Q E h => ?_) (fun cdv A outer s H vs Q E hr h => ?_)
  · obtain ⟨x, ad, mo, pr, bh, fh, R, z, m, rfl, _⟩ := h
    rfl
  · obtain ⟨x, ad, mo, pr, bh, fh, R, z, m, rfl, r, k, kb⟩ := h
    have Tr := T.pg
    refine ⟨_, (pss_one (ps_if (pt_cmpR op_notIn_seq (pv 1) (pe_fld (pv 0) rfl) rfl) (pss_one (ps_raise rfl (takes_of rfl rfl rfl rfl) (pmk_x1 T.e_BadMode hr (pa_cons (pv 1) pa_nil) rfl))) pss_nil)), ?_⟩
    show tIfS _ _ _ _ [some (V.ref x), some (V.str m)] H
    walk_at "rd"
    refine r_pgB r T.pg (by decide +kernel) rfl ?_
    refine x_notInT (SqT.of r.hmo) rfl (by rw [List.all_map]; exact List.all_eq_true.mpr fun _ _ => rfl) ?_
    rw [inV_strs]
    walk_at "rd"
    refine x_ND (fun h1 => ?_) (fun h1 => ?_)
    · walk_at "rd"
      intro d nd
      exact kb h1 d _ (same_upd nd) upd_same
    · walk_at "rd"
      exact k h1
def sp_prices_of (CP CM : Addr) : Sp := fun vs H Q E => ∃ (x : Addr) (ad : Nat → Addr) (mo pr bh fh : Addr) (R : RdM) (z : Str) (m : Str), vs = [.ref x, .str m] ∧ ProgB CP H x ad mo pr bh fh R z ∧ (∀ y, look R.modes m = some y → Q (.ref y.1) H) ∧ (m ∉ R.modes.map (·.1) → ErrD CM "mode" (.str m) H E)
theorem ok_prices_of {f : Addr} {fd : FuncData} (F : Fun K "prices_of" "prices_of" s_prices_of f fd) (T : ModeTxt P K mg CP CM) (c_check_mode : Cal P w K mg base 3 "check_mode" (sp_check_mode CP CM)) : FnOk P w K mg base (L2.CX P w) 4 f fd P_prices_of (sp_prices_of CP CM) := by
  refine F.okX sc_prices_of (fun vs H Q E h => ?_) (fun cdv A outer s H vs Q E hr h => ?_)
  · obtain ⟨x, ad, mo, pr, bh, fh, R, z, m, rfl, _⟩ := h
    rfl
  · obtain ⟨x, ad, mo, pr, bh, fh, R, z, m, rfl, r, k, kb⟩ := h
    have Tr := T.pg
    have hu := hu_of hr
    refine ⟨_, (pss_cons (ps_expr (pe_cs c_check_mode hr (by decide) rfl (fun σ => passAt (takes_of rfl rfl rfl rfl) σ) (pa_cons (pv 0) (pa_cons (pv 1) pa_nil))))
      (pss_one (ps_ret (pe_dget hu (pe_fld (pv 0) rfl) (pv 1) (fun _ _ => rfl))))), ?_⟩
    show tSeq _ _ _ [some (V.ref x), some (V.str m)] H
    walk_at "rd"
    refine ⟨x, ad, mo, pr, bh, fh, R, z, m, rfl, r, fun hm => ?_, kb⟩
    obtain ⟨y, hy⟩ := look_mode hm
    walk_at "rd"
    refine r_pgB r T.pg (by decide +kernel) rfl ?_
    walk_at "rd"
    refine r_getS r.t0 hy ?_
    exact k y hy
def sp_item_at (CP : Addr) : Sp := fun vs H Q _ => ∃ (x : Addr) (ad : Nat → Addr) (mo pr bh fh : Addr) (R : RdM) (z : Str) (be : List (Int × Int)) (fi : List (Str × Int)) (m : Str) (line : Int), vs = [.ref x, .str m, .int line] ∧ ProgAt CP H x ad mo pr bh fh R z be fi ∧ Q (optV (itemM R m line)) H
theorem ok_item_at {f : Addr} {fd : FuncData} (F : Fun K "item_at" "item_at" s_item_at f fd) (T : ModeTxt P K mg CP CM) : FnOk P w K mg base CX0 1 f fd P_item_at (sp_item_at CP) := by
  refine F.ok sc_item_at (fun vs H Q E h => ?_) (fun cdv A outer s H vs Q E hr h => ?_)
  · obtain ⟨x, ad, mo, pr, bh, fh, R, z, be, fi, m, line, rfl, _⟩ := h
    rfl
  · obtain ⟨x, ad, mo, pr, bh, fh, R, z, be, fi, m, line, rfl, r, k⟩ := h
    have Tr := T.pg
    have hu := hu_of hr
    refine ⟨_, (pss_cons (ps_if (pt_cmp (pc_dnotin hu (pv 2) (pe_fld (pv 0) rfl))) (pss_one (ps_ret pe_non)) pss_nil)
      (pss_one (ps_ret (pe_dget1 hu (pe_dget hu (pe_fld (pv 0) rfl) (pv 2) (fun _ _ => rfl)) (pv 1) ⟨rfl, rfl, rfl, rfl⟩)))), ?_⟩
    show tSeq _ _ _ [some (V.ref x), some (V.str m), some (V.int line)] H
    walk_at "rd"
    refine r_dninI r.t9 ?_
    walk_at "rd"
    refine x_NB (fun h1 => ?_) (fun h1 => ?_)
    · walk_at "rd"
      have e : look R.works line = none := by
        cases q : look R.works line with
        | none => rfl
        | some v => rw [q] at h1; cases h1
      unfold itemM at k
      rw [e] at k
      exact k
    obtain ⟨y, hy⟩ := Option.isSome_iff_exists.mp h1
    unfold itemM at k
    rw [hy] at k
    walk_at "rd"
    refine r_getI r.t9 hy ?_
    have hw := (r.ne.wo _ (look_mem hy)).1
    walk_at "rd"
    refine ⟨Or.inl ⟨_, .inl hw⟩, ?_⟩
    walk_at "rd"
    refine ⟨dget_s hw (valV_kS V.str m y.2), ?_⟩
    have e : ((look y.2 m).map V.str).getD .non = optV (look y.2 m) := by cases look y.2 m <;> rfl
    show Q (((look y.2 m).map V.str).getD .non) H
    rw [e]
    exact k
def sp_price (CP CM : Addr) : Sp := fun vs H Q E => ∃ (x : Addr) (ad : Nat → Addr) (mo pr bh fh : Addr) (R : RdM) (z : Str) (be : List (Int × Int)) (fi : List (Str × Int)) (m v : Str), vs = [.ref x, .str m, .str v] ∧ ProgAt CP H x ad mo pr bh fh R z be fi ∧ (∀ y, look R.modes m = some y → ∃ n, look y.2 v = some n ∧ Q (.int n) H) ∧ (m ∉ R.modes.map (·.1) → ErrD CM "mode" (.str m) H E)
theorem ok_price {f : Addr} {fd : FuncData} (F : Fun K "price" "Program.price" s_Program_price f fd) (T : ModeTxt P K mg CP CM) (c_prices_of : Cal P w K mg base 4 "prices_of" (sp_prices_of CP CM)) : FnOk P w K mg base (L2.CX P w) 5 f fd P_Program_price (sp_price CP CM) := by
  refine F.okX sc_Program_price (fun vs H Q E h => ?_) (fun cdv A outer s H vs Q E hr h => ?_)
  · obtain ⟨x, ad, mo, pr, bh, fh, R, z, be, fi, m, v, rfl, _⟩ := h
    rfl
  · obtain ⟨x, ad, mo, pr, bh, fh, R, z, be, fi, m, v, rfl, r, k, kb⟩ := h
    have hu := hu_of hr
    refine ⟨_, (pss_one (ps_ret (pe_dget hu (pe_cs c_prices_of hr (by decide) rfl (fun σ => passAt (takes_of rfl rfl rfl rfl) σ) (pa_cons (pv 0) (pa_cons (pv 1) pa_nil))) (pv 2) (fun _ _ => rfl)))), ?_⟩
    show tRet _ _ [some (V.ref x), some (V.str m), some (V.str v)] H
    walk_at "rd"
    refine ⟨x, ad, mo, pr, bh, fh, R, z, m, rfl, r.b, fun y hy => ?_, kb⟩
    obtain ⟨n, hn, q⟩ := k y hy
    walk_at "rd"
    refine r_getS (r.ne.mo _ (look_mem hy)).1 hn ?_
    exact q
def sp_begin (CP CM : Addr) : Sp := fun vs H Q E => ∃ (x : Addr) (ad : Nat → Addr) (mo pr bh fh : Addr) (R : RdM) (z : Str) (be : List (Int × Int)) (fi : List (Str × Int)) (m : Str), vs = [.ref x, .str m] ∧ ProgAt CP H x ad mo pr bh fh R z be fi ∧ (m ∈ R.modes.map (·.1) → Q (optV (look R.begins m)) H) ∧ (m ∉ R.modes.map (·.1) → ErrD CM "mode" (.str m) H E)
theorem ok_begin {f : Addr} {fd : FuncData} (F : Fun K "begin" "Program.begin" s_Program_begin f fd) (T : ModeTxt P K mg CP CM) (c_check_mode : Cal P w K mg base 3 "check_mode" (sp_check_mode CP CM)) : FnOk P w K mg base (L2.CX P w) 4 f fd P_Program_begin (sp_begin CP CM) := by
  refine F.okX sc_Program_begin (fun vs H Q E h => ?_) (fun cdv A outer s H vs Q E hr h => ?_)
  · obtain ⟨x, ad, mo, pr, bh, fh, R, z, be, fi, m, rfl, _⟩ := h
    rfl
  · obtain ⟨x, ad, mo, pr, bh, fh, R, z, be, fi, m, rfl, r, k, kb⟩ := h
    have Tr := T.pg
    have hu := hu_of hr
    refine ⟨_, (pss_cons (ps_expr (pe_cs c_check_mode hr (by decide) rfl (fun σ => passAt (takes_of rfl rfl rfl rfl) σ) (pa_cons (pv 0) (pa_cons (pv 1) pa_nil))))
      (pss_one (ps_ret (pe_dget1 hu (pe_fld (pv 0) rfl) (pv 1) ⟨rfl, rfl, rfl, rfl⟩)))), ?_⟩
    show tSeq _ _ _ [some (V.ref x), some (V.str m)] H
    walk_at "rd"
    refine ⟨x, ad, mo, pr, bh, fh, R, z, m, rfl, r.b, fun hm => ?_, kb⟩
    walk_at "rd"
    refine ⟨Or.inl ⟨_, .inl r.t1⟩, ?_⟩
    walk_at "rd"
    refine ⟨dget_s r.t1 (valV_kS V.str m R.begins), ?_⟩
    have e : ((look R.begins m).map V.str).getD .non = optV (look R.begins m) := by cases look R.begins m <;> rfl
    show Q (((look R.begins m).map V.str).getD .non) H
    rw [e]
    exact k hm
def sp_item (CP CM : Addr) : Sp := fun vs H Q E => ∃ (x : Addr) (ad : Nat → Addr) (mo pr bh fh : Addr) (R : RdM) (z : Str) (be : List (Int × Int)) (fi : List (Str × Int)) (m : Str) (line : Int), vs = [.ref x, .str m, .int line] ∧ ProgAt CP H x ad mo pr bh fh R z be fi ∧ (m ∈ R.modes.map (·.1) → Q (optV (itemM R m line)) H) ∧ (m ∉ R.modes.map (·.1) → ErrD CM "mode" (.str m) H E)
theorem ok_item {f : Addr} {fd : FuncData} (F : Fun K "item" "Program.item" s_Program_item f fd) (T : ModeTxt P K mg CP CM) (c_check_mode : Cal P w K mg base 3 "check_mode" (sp_check_mode CP CM)) (c_item_at : Cal P w K mg base 1 "item_at" (sp_item_at CP)) : FnOk P w K mg base (L2.CX P w) 4 f fd P_Program_item (sp_item CP CM) := by
  refine F.okX sc_Program_item (fun vs H Q E h => ?_) (fun cdv A outer s H vs Q E hr h => ?_)
  · obtain ⟨x, ad, mo, pr, bh, fh, R, z, be, fi, m, line, rfl, _⟩ := h
    rfl
  · obtain ⟨x, ad, mo, pr, bh, fh, R, z, be, fi, m, line, rfl, r, k, kb⟩ := h
    refine ⟨_, (pss_cons (ps_expr (pe_cs c_check_mode hr (by decide) rfl (fun σ => passAt (takes_of rfl rfl rfl rfl) σ) (pa_cons (pv 0) (pa_cons (pv 1) pa_nil))))
      (pss_one (ps_ret (pe_cc c_item_at hr (by decide) rfl (pa_cons (pv 0) (pa_cons (pv 1) (pa_cons (pv 2) pa_nil))))))), ?_⟩
    show tSeq _ _ _ [some (V.ref x), some (V.str m), some (V.int line)] H
    walk_at "rd"
    refine ⟨x, ad, mo, pr, bh, fh, R, z, m, rfl, r.b, fun hm => ?_, kb⟩
    walk_at "rd"
    exact ⟨x, ad, mo, pr, bh, fh, R, z, be, fi, m, line, rfl, r, k hm⟩
end
end MP
end
section
open PySem L2 MPX MP
local macro_rules | `(tactic| walk_at "rd1") => `(tactic| first
  | with_reducible refine x_seq ?_
  | with_reducible refine x_next ?_
  | with_reducible refine x_ret ?_
  | with_reducible refine x_retN ?_
  | with_reducible refine x_ifs ?_
  | with_reducible refine x_asg ?_
  | with_reducible refine x_drop ?_
  | with_reducible refine x_name ?_
  | ((with_reducible refine' x_var ?vv ?_); (case vv => exact rfl))
  | with_reducible refine x_c ?_
  | with_reducible refine x_op ?_
  | with_reducible refine x_un ?_
  | with_reducible refine x_test ?_
  | with_reducible refine x_tB ?_
  | with_reducible refine x_and ?_
  | with_reducible refine x_or ?_
  | with_reducible refine x_not ?_
  | with_reducible refine x_andV ?_
  | with_reducible refine x_orV ?_
  | with_reducible refine x_notV ?_
  | with_reducible refine x_if ?_
  | with_reducible refine x_nil ?_
  | with_reducible refine x_cons ?_
  | with_reducible refine x_tup ?_
  | with_reducible refine x_lst ?_
  | with_reducible refine x_cb ?_
  | with_reducible refine x_call ?_
  | with_reducible refine x_callS ?_
  | with_reducible refine x_callP ?_
  | with_reducible refine x_mk0 ?_
  | with_reducible refine x_mk1 ?_
  | with_reducible refine x_mk2 ?_
  | with_reducible refine x_make ?_
  | with_reducible refine x_sfld ?_
  | with_reducible refine x_din ?_
  | with_reducible refine x_dnin ?_
  | with_reducible refine x_fldS ?_
  | with_reducible refine x_sl3 ?_
  | ((with_reducible refine' r_pg ?vr ?vt ?vm ?vl ?vq); (case vr => (with_reducible assumption)); (case vt => assumption); (case vm => decide +kernel); (case vl => exact rfl))
  | with_reducible refine x_m0 ?_
  | with_reducible refine x_m1 ?_
  | with_reducible refine x_bm0 ?_
  | with_reducible refine x_bm ?_
  | with_reducible refine x_par ?_
  | with_reducible refine x_ilist ?_
  | with_reducible refine x_itup ?_
  | with_reducible refine x_istr ?_
  | ((with_reducible show tLc _ _ _ _ _ _ _ _); unfold tLc)
  | ((with_reducible show tFor _ _ _ _ _ _); unfold tFor)
  | ((with_reducible refine' x_eq ?vv ?_); (case vv => exact rfl))
  | ((with_reducible refine' x_ne ?vv ?_); (case vv => exact rfl))
  | with_reducible refine x_rI0 ?_
  | with_reducible refine x_dgetR ?_
  | with_reducible refine x_dputR ?_
  | with_reducible refine x_dnew ?_
  | with_reducible refine x_dget1 ?_
  | with_reducible refine x_dget2 ?_
  | with_reducible refine x_sl ?_
  | with_reducible refine x_nopart ?_
  | with_reducible refine x_part ?_
  | ((with_reducible refine' x_slL ?vv ?_); (case vv => (with_reducible assumption)))
  | with_reducible refine x_disp ?_
  | with_reducible refine x_pcons ?_
  | with_reducible refine x_pnil ?_
  | ((with_reducible refine' x_mod ?vv ?_); (case vv => omega); intro r er hr0 hr1; (try clear er))
  | ((with_reducible refine' x_rI ?vv ?_); (case vv => walk_at "sc"))
  | (with_reducible refine Or.inl (Exists.intro _ (And.intro rfl ?_)))
  | with_reducible refine x_T ?_
  | with_reducible refine x_F ?_
  | ((with_reducible show Exists (α := V) _); (with_reducible apply Exists.intro))
  | ((with_reducible show Exists (α := Bool) _); (with_reducible apply Exists.intro))
  | ((with_reducible show Exists (α := Nat) _); (with_reducible apply Exists.intro))
  | ((with_reducible show Exists (α := Int) _); (with_reducible apply Exists.intro))
  | ((with_reducible show Exists (α := List V) _); (with_reducible apply Exists.intro))
  | ((with_reducible show Exists (α := PySem.Str) _); (with_reducible apply Exists.intro))
  | ((with_reducible show Exists (α := Option V) _); (with_reducible apply Exists.intro))
  | ((with_reducible show Exists (α := Option Int) _); (with_reducible apply Exists.intro))
  | ((with_reducible show Exists (α := List (Key × V)) _); (with_reducible apply Exists.intro))
  | refine And.intro rfl ?_
  | ((with_reducible refine And.intro ?vv ?_); (case vv => (first | (with_reducible assumption) | (show _ ≤ sizeLine; decide) | exact len_ok rfl)))
  | (refine And.intro (Exists.intro _ rfl) ?_))
local macro_rules | `(tactic| walk_at "sc") => `(tactic| first
  | (with_reducible assumption)
  | exact divW (by omega) (by omega)
  | exact mulW (by omega) (by omega)
  | exact Or.inl ⟨by omega, by omega⟩
  | exact Or.inr ⟨by omega, by omega⟩
  | (show (_ : Int) ≠ 0; omega)
  | exact ⟨by decide, by decide, by decide⟩
  | decide)
local macro_rules | `(tactic| walk_at "rd") => `(tactic| repeat walk_at "rd1")
namespace MP
open PySem L2
section
variable {P : Program} {w : World} {K : PySem.W.Frag} {mg : Str → Option Value} {base : Heap} {ts : Nat → Tok} {CP CM : Addr}
abbrev s_last_value : Stmt := topS 50
abbrev N_last_value : List Str := ["program", "mode", "lines", "line", "value"]
abbrev P_last_value : List Str := ["program", "mode", "lines"]
theorem sc_last_value : FnScope N_last_value P_last_value (defScope s_last_value) := ⟨rfl, rfl, rfl, by decide +kernel, rfl, by decide +kernel, by decide +kernel⟩
abbrev s_need_of : Stmt := topS 51
abbrev N_need_of : List Str := ["program", "mode", "lines", "total", "last", "line", "value"]
abbrev P_need_of : List Str := ["program", "mode", "lines"]
theorem sc_need_of : FnScope N_need_of P_need_of (defScope s_need_of) := ⟨rfl, rfl, rfl, by decide +kernel, rfl, by decide +kernel, by decide +kernel⟩
structure WalkTxt (P : Program) (K : PySem.W.Frag) (mg : Str → Option Value) (CP CM : Addr) : Prop extends ModeTxt P K mg CP CM where
  b_list : mg "list" = none
  b_reversed : mg "reversed" = none
def sp_last_value (K : PySem.W.Frag) (CP : Addr) : Sp := fun vs H Q _ => ∃ (x : Addr) (ad : Nat → Addr) (mo pr bh fh : Addr) (R : RdM) (z : Str) (be : List (Int × Int)) (fi : List (Str × Int)) (m : Str) (t : Addr) (ls : List Int), vs = [.ref x, .str m, .ref t] ∧ ProgAt CP H x ad mo pr bh fh R z be fi ∧ SqT K H t (ls.map V.int) ∧ ls.length < 100000 ∧ ∀ H', Same H H' → Q (.str (lastM R m ls)) H'
theorem ok_last_value {f : Addr} {fd : FuncData} (F : Fun K "last_value" "last_value" s_last_value f fd) (T : WalkTxt P K mg CP CM) (c_item_at : Cal P w K mg base 1 "item_at" (sp_item_at CP)) : FnOk P w K mg base CX0 2 f fd P_last_value (sp_last_value K CP) := by
  refine F.ok sc_last_value (fun vs H Q E h => ?_) (fun cdv A outer s H vs Q E hr h => ?_)
  · obtain ⟨x, ad, mo, pr, bh, fh, R, z, be, fi, m, t, ls, rfl, _⟩ := h
    rfl
  · obtain ⟨x, ad, mo, pr, bh, fh, R, z, be, fi, m, t, ls, rfl, r, ht, hl, k⟩ := h
    have Tr := T.pg
    have hu := hu_of hr
    refine ⟨_, (pss_cons (ps_for PassesOwn.never rfl (pi_reversed (by rfl) T.b_reversed (pa_cons (pe_callTy call_list_of (by rfl) T.b_list (by decide +kernel) (pa_cons (pv 2) pa_nil)) pa_nil)) (pg_name (i := 3) sc_last_value.nd rfl (Or.inl rfl))
      (pss_cons (ps_set (i := 4) sc_last_value.nd rfl (Or.inl rfl) (pe_cc c_item_at hr (by decide) rfl (pa_cons (pv 0) (pa_cons (pv 1) (pa_cons (pv 3) pa_nil)))))
      (pss_one (ps_if (pt_cmpR op_notN (pv 4) pe_non (nomark _)) (pss_one (ps_ret (pv 4))) pss_nil))))
      (pss_one (ps_ret (pe_dget2 hu (pe_fld (pv 0) rfl) (pv 1) pe_str ⟨rfl, rfl, rfl, rfl⟩)))), ?_⟩
    show tSeq _ _ _ [some (V.ref x), some (V.str m), some (V.ref t), none, none] H
    walk_at "rd"
    refine x_irev ?_
    walk_at "rd"
    refine ⟨Or.inr ht, fun l nl => ?_⟩
    generalize eH : upd H l _ = H1
    have s1 : Same H H1 := eH ▸ same_upd nl
    have e1 : H1 l = some (.lst (ls.map V.int)) := eH ▸ upd_same
    clear eH
    replace r := r.same s1
    walk_at "rd"
    refine ⟨SqL.of e1, for_it walk_rev (fun i σ H' => Hold (∃ x3 x4, σ = [some (V.ref x), some (V.str m), some (V.ref t), x3, x4] ∧ H' = H1 ∧ ∀ j < i, ∀ y, ls.reverse[j]? = some y → itemM R m y = none)) ⟨none, none, rfl, rfl, fun j hj => absurd hj (Nat.not_lt_zero j)⟩ (fun i σ H' _ ⟨_, _, _, e, _⟩ => e ▸ SqL.of e1) ?_ ?_⟩
    · rintro i v σ H' H'' hi ⟨x3, x4, rfl, rfl, hn⟩ ⟨rfl, hv⟩
      rw [← List.getElem?_reverse hi, ← List.map_reverse, List.getElem?_map] at hv
      obtain ⟨b, hb, rfl⟩ := Option.map_eq_some_iff.mp hv
      walk_at "rd"
      refine ⟨x, ad, mo, pr, bh, fh, R, z, be, fi, m, b, rfl, r, ?_⟩
      cases hit : itemM R m b with
      | some v2 =>
        walk_at "rd"
        refine x_cT rfl ?_
        walk_at "rd"
        have e : lastM R m ls = v2 := by
          unfold lastM
          rw [findSome_at hn hb hit]
        rw [← e]
        exact k _ s1
      | none =>
        walk_at "rd"
        refine x_cF rfl ?_
        walk_at "rd"
        refine ⟨_, _, rfl, rfl, fun j hj y hy => ?_⟩
        rcases Nat.lt_succ_iff_lt_or_eq.mp hj with hj | rfl
        · exact hn j hj y hy
        · rw [hb] at hy
          cases hy
          exact hit
    · rintro σ H' ⟨x3, x4, rfl, rfl, hn⟩
      walk_at "rd"
      refine ⟨Or.inl ⟨_, .inl r.t1⟩, ?_⟩
      walk_at "rd"
      refine ⟨dget_s r.t1 (valV_kS V.str m R.begins), ?_⟩
      have e0 : ls.reverse.findSome? (itemM R m) = none := findSome_no fun j hj y hy => hn j (by rw [List.length_map]; rw [List.length_reverse] at hj; exact hj) y hy
      have e : ((look R.begins m).map V.str).getD (.str "?") = .str (lastM R m ls) := by
        unfold lastM
        rw [e0]
        cases look R.begins m <;> rfl
      show Q (((look R.begins m).map V.str).getD (.str "?")) _
      rw [e]
      exact k _ s1
end
end MP
end
section
open PySem L2 MPX MP
local macro_rules | `(tactic| walk_at "rd1") => `(tactic| first
  | with_reducible refine x_seq ?_
  | with_reducible refine x_next ?_
  | with_reducible refine x_ret ?_
  | with_reducible refine x_retN ?_
  | with_reducible refine x_ifs ?_
  | with_reducible refine x_asg ?_
  | with_reducible refine x_drop ?_
  | with_reducible refine x_name ?_
  | ((with_reducible refine' x_var ?vv ?_); (case vv => exact rfl))
  | with_reducible refine x_c ?_
  | with_reducible refine x_op ?_
  | with_reducible refine x_un ?_
  | with_reducible refine x_test ?_
  | with_reducible refine x_tB ?_
  | with_reducible refine x_and ?_
  | with_reducible refine x_or ?_
  | with_reducible refine x_not ?_
  | with_reducible refine x_andV ?_
  | with_reducible refine x_orV ?_
  | with_reducible refine x_notV ?_
  | with_reducible refine x_if ?_
  | with_reducible refine x_nil ?_
  | with_reducible refine x_cons ?_
  | with_reducible refine x_tup ?_
  | with_reducible refine x_lst ?_
  | with_reducible refine x_cb ?_
  | with_reducible refine x_call ?_
  | with_reducible refine x_callS ?_
  | with_reducible refine x_callP ?_
  | with_reducible refine x_mk0 ?_
  | with_reducible refine x_mk1 ?_
  | with_reducible refine x_mk2 ?_
  | with_reducible refine x_make ?_
  | with_reducible refine x_sfld ?_
  | with_reducible refine x_din ?_
  | with_reducible refine x_dnin ?_
  | with_reducible refine x_fldS ?_
  | with_reducible refine x_sl3 ?_
  | ((with_reducible refine' r_pg ?vr ?vt ?vm ?vl ?vq); (case vr => (with_reducible assumption)); (case vt => assumption); (case vm => decide +kernel); (case vl => exact rfl))
  | with_reducible refine x_m0 ?_
  | with_reducible refine x_m1 ?_
  | with_reducible refine x_bm0 ?_
  | with_reducible refine x_bm ?_
  | with_reducible refine x_par ?_
  | with_reducible refine x_ilist ?_
  | with_reducible refine x_itup ?_
  | with_reducible refine x_istr ?_
  | ((with_reducible show tLc _ _ _ _ _ _ _ _); unfold tLc)
  | ((with_reducible show tFor _ _ _ _ _ _); unfold tFor)
  | ((with_reducible refine' x_eq ?vv ?_); (case vv => exact rfl))
  | ((with_reducible refine' x_ne ?vv ?_); (case vv => exact rfl))
  | with_reducible refine x_rI0 ?_
  | with_reducible refine x_dgetR ?_
  | with_reducible refine x_dputR ?_
  | with_reducible refine x_dnew ?_
  | with_reducible refine x_dget1 ?_
  | with_reducible refine x_dget2 ?_
  | with_reducible refine x_sl ?_
  | with_reducible refine x_nopart ?_
  | with_reducible refine x_part ?_
  | ((with_reducible refine' x_slL ?vv ?_); (case vv => (with_reducible assumption)))
  | with_reducible refine x_disp ?_
  | with_reducible refine x_pcons ?_
  | with_reducible refine x_pnil ?_
  | ((with_reducible refine' x_mod ?vv ?_); (case vv => omega); intro r er hr0 hr1; (try clear er))
  | ((with_reducible refine' x_rI ?vv ?_); (case vv => walk_at "sc"))
  | (with_reducible refine Or.inl (Exists.intro _ (And.intro rfl ?_)))
  | with_reducible refine x_T ?_
  | with_reducible refine x_F ?_
  | ((with_reducible show Exists (α := V) _); (with_reducible apply Exists.intro))
  | ((with_reducible show Exists (α := Bool) _); (with_reducible apply Exists.intro))
  | ((with_reducible show Exists (α := Nat) _); (with_reducible apply Exists.intro))
  | ((with_reducible show Exists (α := Int) _); (with_reducible apply Exists.intro))
  | ((with_reducible show Exists (α := List V) _); (with_reducible apply Exists.intro))
  | ((with_reducible show Exists (α := PySem.Str) _); (with_reducible apply Exists.intro))
  | ((with_reducible show Exists (α := Option V) _); (with_reducible apply Exists.intro))
  | ((with_reducible show Exists (α := Option Int) _); (with_reducible apply Exists.intro))
  | ((with_reducible show Exists (α := List (Key × V)) _); (with_reducible apply Exists.intro))
  | refine And.intro rfl ?_
  | ((with_reducible refine And.intro ?vv ?_); (case vv => (first | (with_reducible assumption) | (show _ ≤ sizeLine; decide) | exact len_ok rfl)))
  | (refine And.intro (Exists.intro _ rfl) ?_))
local macro_rules | `(tactic| walk_at "sc") => `(tactic| first
  | (with_reducible assumption)
  | exact divW (by omega) (by omega)
  | exact mulW (by omega) (by omega)
  | exact Or.inl ⟨by omega, by omega⟩
  | exact Or.inr ⟨by omega, by omega⟩
  | (show (_ : Int) ≠ 0; omega)
  | exact ⟨by decide, by decide, by decide⟩
  | decide)
local macro_rules | `(tactic| walk_at "rd") => `(tactic| repeat walk_at "rd1")
namespace MP
open PySem L2
section
variable {P : Program} {w : World} {K : PySem.W.Frag} {mg : Str → Option Value} {base : Heap} {ts : Nat → Tok} {CP CM : Addr}
def sp_need_of (K : PySem.W.Frag) (CP : Addr) : Sp := fun vs H Q _ => ∃ (x : Addr) (ad : Nat → Addr) (mo pr bh fh : Addr) (R : RdM) (z : Str) (be : List (Int × Int)) (fi : List (Str × Int)) (m : Str) (t : Addr) (ls : List Int) (y : Addr × List (Str × Int)), vs = [.ref x, .str m, .ref t] ∧ ProgAt CP H x ad mo pr bh fh R z be fi ∧ SqT K H t (ls.map V.int) ∧ look R.modes m = some y ∧ (∀ l v, itemM R m l = some v → v ≠ ("?" : Str) → (look y.2 v).isSome = true) ∧
  Q (.int (needL R m y.2 ls ((look R.begins m).getD ("?" : Str)) 0)) H
theorem ok_need_of {f : Addr} {fd : FuncData} (F : Fun K "need_of" "need_of" s_need_of f fd) (T : WalkTxt P K mg CP CM) (c_item_at : Cal P w K mg base 1 "item_at" (sp_item_at CP)) : FnOk P w K mg base CX0 2 f fd P_need_of (sp_need_of K CP) := by
  refine F.ok sc_need_of (fun vs H Q E h => ?_) (fun cdv A outer s H vs Q E hr h => ?_)
  · obtain ⟨x, ad, mo, pr, bh, fh, R, z, be, fi, m, t, ls, y, rfl, _⟩ := h
    rfl
  · obtain ⟨x, ad, mo, pr, bh, fh, R, z, be, fi, m, t, ls, y, rfl, r, ht, hy, hit, k⟩ := h
    have Tr := T.pg
    have hu := hu_of hr
    refine ⟨_, (pss_cons (ps_set (i := 3) sc_need_of.nd rfl (Or.inl rfl) pe_int)
      (pss_cons (ps_set (i := 4) sc_need_of.nd rfl (Or.inl rfl) (pe_dget2 hu (pe_fld (pv 0) rfl) (pv 1) pe_str ⟨rfl, rfl, rfl, rfl⟩))
      (pss_cons (ps_for PassesOwn.never rfl (pi_tup (pv 2)) (pg_name (i := 5) sc_need_of.nd rfl (Or.inl rfl))
      (pss_cons (ps_set (i := 6) sc_need_of.nd rfl (Or.inl rfl) (pe_cc c_item_at hr (by decide) rfl (pa_cons (pv 0) (pa_cons (pv 1) (pa_cons (pv 5) pa_nil)))))
      (pss_one (ps_if (pt_cmpR op_notN (pv 6) pe_non (nomark _)) (pss_cons (ps_if (PW.pt (pw_and (pt_cmpR op_ne (pv 6) pe_str (nomark _)) (pw_and1 (pt_cmpR op_ne (pv 6) (pv 4) (nomark _))))) (pss_one (ps_set (i := 3) sc_need_of.nd rfl (Or.inl rfl) (pe_op op_add (pv 3) (pe_dget hu (pe_dget hu (pe_fld (pv 0) rfl) (pv 1) (fun _ _ => rfl)) (pv 6) (fun _ _ => rfl))))) pss_nil)
        (pss_one (ps_set (i := 4) sc_need_of.nd rfl (Or.inl rfl) (pv 6)))) pss_nil))))
      (pss_one (ps_ret (pv 3)))))), ?_⟩
    show tSeq _ _ _ [some (V.ref x), some (V.str m), some (V.ref t), none, none, none, none] H
    walk_at "rd"
    refine ⟨Or.inl ⟨_, .inl r.t1⟩, ?_⟩
    walk_at "rd"
    refine ⟨dget_s r.t1 (valV_kS V.str m R.begins), ?_⟩
    rw [show ((look R.begins m).map V.str).getD (.str "?") = V.str ((look R.begins m).getD ("?" : Str)) from by cases look R.begins m <;> rfl]
    walk_at "rd"
    refine ⟨⟨_, ht⟩, for_it (walk_tup (xs := ls.map V.int)) (fun i σ H' => Hold (∃ (tot : Int) (last : Str) (x5 x6 : Option V), σ = [some (V.ref x), some (V.str m), some (V.ref t), some (V.int tot), some (V.str last), x5, x6] ∧ H' = H ∧ needL R m y.2 ls ((look R.begins m).getD ("?" : Str)) 0 = needL R m y.2 (ls.drop i) last tot)) ⟨0, _, none, none, rfl, rfl, rfl⟩ (fun i σ H' _ ⟨_, _, _, _, _, e, _⟩ => e ▸ ht) ?_ ?_⟩
    · rintro i v σ H' H'' hi ⟨tot, last, x5, x6, rfl, rfl, hn⟩ ⟨rfl, hv⟩
      rw [List.getElem?_map] at hv
      obtain ⟨b, hb, rfl⟩ := Option.map_eq_some_iff.mp hv
      rw [drop_at hb] at hn
      walk_at "rd"
      refine ⟨x, ad, mo, pr, bh, fh, R, z, be, fi, m, b, rfl, r, ?_⟩
      cases e : itemM R m b with
      | none =>
        walk_at "rd"
        refine x_cF rfl ?_
        walk_at "rd"
        refine ⟨tot, last, _, _, rfl, rfl, ?_⟩
        rw [hn]
        conv => lhs; unfold needL
        simp only [e]
      | some v2 =>
        walk_at "rd"
        refine x_cT rfl ?_
        walk_at "rd"
        refine x_ND (fun h1 => ?_) (fun h1 => ?_)
        · have h1' : v2 ≠ ("?" : Str) := fun q => h1 (by rw [q]; rfl)
          walk_at "rd"
          refine x_ND (fun h2 => ?_) (fun h2 => ?_)
          · have h2' : v2 ≠ last := fun q => h2 (by rw [q]; rfl)
            obtain ⟨n, hn2⟩ := Option.isSome_iff_exists.mp (hit b v2 e h1')
            walk_at "rd"
            refine r_getS r.t0 hy ?_
            walk_at "rd"
            refine r_getS (r.ne.mo _ (look_mem hy)).1 hn2 ?_
            walk_at "rd"
            refine ⟨_, v2, _, _, rfl, rfl, ?_⟩
            rw [hn]
            conv => lhs; unfold needL
            simp only [e]
            rw [if_pos ⟨h1', h2'⟩, hn2]
            rfl
          · walk_at "rd"
            refine ⟨_, v2, _, _, rfl, rfl, ?_⟩
            rw [hn]
            conv => lhs; unfold needL
            simp only [e]
            rw [if_neg fun q => q.2 (V.str.inj h2)]
        · walk_at "rd"
          refine ⟨_, v2, _, _, rfl, rfl, ?_⟩
          rw [hn]
          conv => lhs; unfold needL
          simp only [e]
          rw [if_neg fun q => q.1 (V.str.inj h1)]
    · rintro σ H' ⟨tot, last, x5, x6, rfl, rfl, hn⟩
      walk_at "rd"
      rw [List.length_map, List.drop_of_length_le (Nat.le_refl _)] at hn
      rw [hn] at k
      exact k
end
end MP
end
section
open PySem L2 MPX MP
local macro_rules | `(tactic| walk_at "rd1") => `(tactic| first
  | with_reducible refine x_seq ?_
  | with_reducible refine x_next ?_
  | with_reducible refine x_ret ?_
  | with_reducible refine x_retN ?_
  | with_reducible refine x_ifs ?_
  | with_reducible refine x_asg ?_
  | with_reducible refine x_drop ?_
  | with_reducible refine x_name ?_
  | ((with_reducible refine' x_var ?vv ?_); (case vv => exact rfl))
  | with_reducible refine x_c ?_
  | with_reducible refine x_op ?_
  | with_reducible refine x_un ?_
  | with_reducible refine x_test ?_
  | with_reducible refine x_tB ?_
  | with_reducible refine x_and ?_
  | with_reducible refine x_or ?_
  | with_reducible refine x_not ?_
  | with_reducible refine x_andV ?_
  | with_reducible refine x_orV ?_
  | with_reducible refine x_notV ?_
  | with_reducible refine x_if ?_
  | with_reducible refine x_nil ?_
  | with_reducible refine x_cons ?_
  | with_reducible refine x_tup ?_
  | with_reducible refine x_lst ?_
  | with_reducible refine x_cb ?_
  | with_reducible refine x_call ?_
  | with_reducible refine x_callS ?_
  | with_reducible refine x_callP ?_
  | with_reducible refine x_mk0 ?_
  | with_reducible refine x_mk1 ?_
  | with_reducible refine x_mk2 ?_
  | with_reducible refine x_make ?_
  | with_reducible refine x_sfld ?_
  | with_reducible refine x_din ?_
  | with_reducible refine x_dnin ?_
  | with_reducible refine x_fldS ?_
  | with_reducible refine x_sl3 ?_
  | ((with_reducible refine' r_pg ?vr ?vt ?vm ?vl ?vq); (case vr => (with_reducible assumption)); (case vt => assumption); (case vm => decide +kernel); (case vl => exact rfl))
  | with_reducible refine x_m0 ?_
  | with_reducible refine x_m1 ?_
  | with_reducible refine x_bm0 ?_
  | with_reducible refine x_bm ?_
  | with_reducible refine x_par ?_
  | with_reducible refine x_ilist ?_
  | with_reducible refine x_itup ?_
  | with_reducible refine x_istr ?_
  | ((with_reducible show tLc _ _ _ _ _ _ _ _); unfold tLc)
  | ((with_reducible show tFor _ _ _ _ _ _); unfold tFor)
  | ((with_reducible refine' x_eq ?vv ?_); (case vv => exact rfl))
  | ((with_reducible refine' x_ne ?vv ?_); (case vv => exact rfl))
  | with_reducible refine x_rI0 ?_
  | with_reducible refine x_dgetR ?_
  | with_reducible refine x_dputR ?_
  | with_reducible refine x_dnew ?_
  | with_reducible refine x_dget1 ?_
  | with_reducible refine x_dget2 ?_
  | with_reducible refine x_sl ?_
  | with_reducible refine x_nopart ?_
  | with_reducible refine x_part ?_
  | ((with_reducible refine' x_slL ?vv ?_); (case vv => (with_reducible assumption)))
  | with_reducible refine x_disp ?_
  | with_reducible refine x_pcons ?_
  | with_reducible refine x_pnil ?_
  | ((with_reducible refine' x_mod ?vv ?_); (case vv => omega); intro r er hr0 hr1; (try clear er))
  | ((with_reducible refine' x_rI ?vv ?_); (case vv => walk_at "sc"))
  | (with_reducible refine Or.inl (Exists.intro _ (And.intro rfl ?_)))
  | with_reducible refine x_T ?_
  | with_reducible refine x_F ?_
  | ((with_reducible show Exists (α := V) _); (with_reducible apply Exists.intro))
  | ((with_reducible show Exists (α := Bool) _); (with_reducible apply Exists.intro))
  | ((with_reducible show Exists (α := Nat) _); (with_reducible apply Exists.intro))
  | ((with_reducible show Exists (α := Int) _); (with_reducible apply Exists.intro))
  | ((with_reducible show Exists (α := List V) _); (with_reducible apply Exists.intro))
  | ((with_reducible show Exists (α := PySem.Str) _); (with_reducible apply Exists.intro))
  | ((with_reducible show Exists (α := Option V) _); (with_reducible apply Exists.intro))
  | ((with_reducible show Exists (α := Option Int) _); (with_reducible apply Exists.intro))
  | ((with_reducible show Exists (α := List (Key × V)) _); (with_reducible apply Exists.intro))
  | refine And.intro rfl ?_
  | ((with_reducible refine And.intro ?vv ?_); (case vv => (first | (with_reducible assumption) | (show _ ≤ sizeLine; decide) | exact len_ok rfl)))
  | (refine And.intro (Exists.intro _ rfl) ?_))
local macro_rules | `(tactic| walk_at "sc") => `(tactic| first
  | (with_reducible assumption)
  | exact divW (by omega) (by omega)
  | exact mulW (by omega) (by omega)
  | exact Or.inl ⟨by omega, by omega⟩
  | exact Or.inr ⟨by omega, by omega⟩
  | (show (_ : Int) ≠ 0; omega)
  | exact ⟨by decide, by decide, by decide⟩
  | decide)
local macro_rules | `(tactic| walk_at "rd") => `(tactic| repeat walk_at "rd1")
namespace MP
open PySem L2
section
variable {P : Program} {w : World} {K : PySem.W.Frag} {mg : Str → Option Value} {base : Heap} {ts : Nat → Tok} {CP CM : Addr}
structure TupTxt (P : Program) (K : PySem.W.Frag) (mg : Str → Option Value) (CP CM : Addr) : Prop extends WalkTxt P K mg CP CM where
  b_tuple : mg "tuple" = none
def sp_choices (CP CM : Addr) : Sp := fun vs H Q E => ∃ (x : Addr) (ad : Nat → Addr) (mo pr bh fh : Addr) (R : RdM) (z : Str) (be : List (Int × Int)) (fi : List (Str × Int)) (m : Str) (y : Addr × List (Str × Int)), vs = [.ref x, .str m] ∧ ProgAt CP H x ad mo pr bh fh R z be fi ∧ look R.modes m = some y ∧ y.2.length < 1000 ∧ ∀ t H', Same H H' → H' t = some (.tup ((y.2.map (·.1)).map V.str)) → Q (.ref t) H'
theorem ok_choices {f : Addr} {fd : FuncData} (F : Fun K "choices" "Program.choices" s_Program_choices f fd) (T : TupTxt P K mg CP CM) (c_prices_of : Cal P w K mg base 4 "prices_of" (sp_prices_of CP CM)) : FnOk P w K mg base (L2.CX P w) 5 f fd P_Program_choices (sp_choices CP CM) := by
  refine F.okX sc_Program_choices (fun vs H Q E h => ?_) (fun cdv A outer s H vs Q E hr h => ?_)
  · obtain ⟨x, ad, mo, pr, bh, fh, R, z, be, fi, m, y, rfl, _⟩ := h
    rfl
  · obtain ⟨x, ad, mo, pr, bh, fh, R, z, be, fi, m, y, rfl, r, hy, hl, k⟩ := h
    refine ⟨_, (pss_one (ps_ret (pe_callTy (call_tuple_K (rfl : _ = K)) (by rfl) T.b_tuple (by decide +kernel) (pa_cons (pe_lock (pe_lc (own := [("value", 2)]) (g := gName 2) (tt := tYes) rfl sc_Program_choices.nd (pi_keys (pe_cs c_prices_of hr (by decide) rfl (fun σ => passAt (takes_of rfl rfl rfl rfl) σ) (pa_cons (pv 0) (pa_cons (pv 1) pa_nil)))) (blkOk_by (own := [("value", 2)]) (N := N_Program_choices) (sc := defScope s_Program_choices) (by decide +kernel)) (fun _ _ _ _ _ => (pg_name (i := 2) sc_Program_choices.nd rfl (Or.inl rfl))) (fun _ _ _ _ _ => pts_nil) (fun _ _ _ _ _ => (pv 2)))) pa_nil)))), ?_⟩
    show tRet _ _ [some (V.ref x), some (V.str m), none] H
    walk_at "rd"
    refine ⟨y.1, _, (r.ne.mo _ (look_mem hy)).1, trivial, fun od => ?_⟩
    walk_at "rd"
    refine x_ikeys ?_
    walk_at "rd"
    refine ⟨x, ad, mo, pr, bh, fh, R, z, m, rfl, r.locked hy, fun y2 hy2 => ?_, fun hm => absurd (List.mem_map.mpr ⟨_, look_mem hy, rfl⟩) hm⟩
    rw [hy] at hy2
    cases hy2
    refine ⟨y.1, od, rfl, Or.inl ⟨_, upd_same, fun D hD => ?_⟩⟩
    have hDy : D ≠ y.1 := fun q => by rw [q, upd_same] at hD; cases hD
    refine lc_it walk_keys (fun i H3 => Hold (H3 = upd (upd H y.1 (.frz od (.dK (kS V.int y.2)))) D (.lst (((y.2.take i).map (·.1)).map V.str)))) ⟨rfl⟩ (fun i H3 _ ⟨e⟩ => by rw [e, upd_ne (Ne.symm hDy)]; exact upd_same) ?_ ?_
    · rintro i v H3 H4 hi ⟨rfl⟩ ⟨rfl, k2, v2, hk2, rfl⟩
      unfold kS at hk2
      rw [List.getElem?_map] at hk2
      obtain ⟨cc, hcc, e2⟩ := Option.map_eq_some_iff.mp hk2
      cases e2
      walk_at "rd"
      unfold tYes
      refine x_T ?_
      walk_at "rd"
      refine ⟨upd_same, ?_, ⟨?_⟩⟩
      · rw [List.length_map, List.length_map, List.length_take]
        have := big5
        omega
      · rw [upd_upd, List.take_add_one, hcc, List.map_append, List.map_append]
        rfl
    · rintro H3 ⟨rfl⟩
      rw [kS_len, List.take_length]
      refine ⟨by rw [upd_ne (Ne.symm hDy)]; exact upd_same, ?_⟩
      obtain ⟨sL, eD⟩ := same_lock (w := .lst ((y.2.map (·.1)).map V.str)) (r.ne.mo _ (look_mem hy)).1 hD
      show tNil _ _ _
      walk_at "rd"
      refine x_tupL (SqL.of eD) fun l nl => ?_
      exact k l _ (sL.trans (same_upd nl)) upd_same
end
end MP
end
section
namespace MP
open PySem L2
/-! ### making a program -/
/-- a dict comprehension over a walk -/
theorem dc_it {J : It} {n : Nat} {G : Hp → Prop} {Y : Nat → Hp → V → Hp → Prop} (w : Walk J n G Y) {g : TG} {tt : TT} {tk tv : TE} {vs : List Nat} {σ : L2.St} {H1 : Hp} {D : Addr} {Qd : Hp → Prop} (Pv : Nat → Hp → Prop) (h0 : Pv 0 (upd H1 D (.dK []))) (hG : ∀ i H, i ≤ n → Pv i H → G H)
    (hs : ∀ i x H H', i < n → Pv i H → Y i H x H' → g x (wipe σ vs) H' fun σ2 H2 => wipe σ2 vs = wipe σ vs ∧ tt σ2 H2 fun b H3 =>
      if b = true then tk σ2 H3 fun y H4 => tv σ2 H4 fun z H5 => ∃ kvs k, y = kV k ∧ H5 D = some (.dK kvs) ∧ kvs.length < sizeLine ∧ Pv (i + 1) (upd H5 D (.dK (putK kvs k z))) else Pv (i + 1) H3) (hd : ∀ H, Pv n H → Qd H) :
    ∃ W : Nat → Nat → Hp → Prop, (∃ m, W 0 m (upd H1 D (.dK []))) ∧ ∀ i m H, W i m H →
      (J.stop i H ∧ Qd H) ∨ (J.go i H ∧ ∃ Nx : Hp → Prop, (∀ H', Nx H' → ∃ m', m' < m ∧ W (i + 1) m' H') ∧ ∀ x H', J.yld i H x H' → g x (wipe σ vs) H' fun σ2 H2 => wipe σ2 vs = wipe σ vs ∧ tt σ2 H2 fun b H3 =>
        if b = true then tk σ2 H3 fun y H4 => tv σ2 H4 fun z H5 => ∃ kvs k, y = kV k ∧ H5 D = some (.dK kvs) ∧ kvs.length < sizeLine ∧ Nx (upd H5 D (.dK (putK kvs k z))) else Nx H3) := by
  refine ⟨fun i m H => m = n - i ∧ i ≤ n ∧ Pv i H, ⟨n, by simp, Nat.zero_le _, h0⟩, fun i m H ⟨em, hi, p⟩ => ?_⟩
  have q := hG i H hi p
  rcases Nat.lt_or_ge i n with hlt | hge
  · exact .inr ⟨w.goes i H hlt q, Pv (i + 1), fun H' p' => ⟨n - (i + 1), by omega, rfl, hlt, p'⟩, fun x H' y => hs i x H H' hlt p (w.yields i H x H' hlt q y)⟩
  · have e : i = n := Nat.le_antisymm hi hge
    subst e
    exact .inl ⟨w.stops H q, hd H p⟩
theorem RunW.mono {nm pr : Str → Bool} {val : Str → Int} {it : Str → Option (Str × Str)} {wd : Str → List Str} {F F' : RdM → Prop} {B B' : Int → Prop} (hF : ∀ R, F R → F' R) (hB : ∀ l, B l → B' l) : ∀ {rows : List Str} {R : RdM} {l : Int}, RunW nm pr val it wd F B rows R l → RunW nm pr val it wd F' B' rows R l
  | [], R, _, h => hF R h
  | _ :: _, _, _, h => ⟨fun e => RunW.mono hF hB (h.1 e), fun e => ⟨fun k => hB _ ((h.2 e).1 k), fun k q => RunW.mono hF hB ((h.2 e).2 k q)⟩⟩
theorem x_iitems {td : TE} {σ : L2.St} {H : Hp} {R : It → Hp → Prop} (h : td σ H fun x H1 => ∃ (d : Addr) (o : Obj) (kvs : List (Key × V)), x = V.ref d ∧ H1 d = some (.frz o (.dK kvs)) ∧ R (Iti d o kvs) H1) : iItems td σ H R := h
theorem putK_kI {α : Type} (f : α → V) (l : List (Int × α)) (k : Int) (v : α) : putK (kI f l) (Sum.inl k : Key) (f v) = kI f (putG l k v) := by
  unfold putG
  by_cases hn : (look l k).isSome = true
  · rw [if_pos hn]
    have h1 : ((kI f l).any fun kv => decide (kv.1 = (Sum.inl k : Key))) = true := by rw [valV_any, valV_kI, Option.isSome_map]; exact hn
    unfold putK
    rw [if_pos h1]
    unfold kI setL
    rw [List.map_map, List.map_map]
    refine List.map_congr_left fun x _ => ?_
    show (if (Sum.inl x.1 : Key) = Sum.inl k then _ else _) = (((Sum.inl (if x.1 = k then (k, v) else x).1 : Key)), f (if x.1 = k then (k, v) else x).2)
    by_cases e : x.1 = k
    · rw [if_pos e, if_pos (by rw [e])]
      show ((Sum.inl x.1 : Key), f v) = (Sum.inl k, f v)
      rw [e]
    · rw [if_neg e, if_neg fun z => e (Sum.inl.inj z)]
  · rw [if_neg hn, putK_new _ (by rw [valV_kI]; simpa using hn)]
    unfold kI
    rw [List.map_append]
    rfl
theorem putK_kS {α : Type} (f : α → V) (l : List (Str × α)) (k : Str) (v : α) : putK (kS f l) (Sum.inr k : Key) (f v) = kS f (putG l k v) := by
  unfold putG
  by_cases hn : (look l k).isSome = true
  · rw [if_pos hn]
    have h1 : ((kS f l).any fun kv => decide (kv.1 = (Sum.inr k : Key))) = true := by rw [valV_any, valV_kS, Option.isSome_map]; exact hn
    unfold putK
    rw [if_pos h1]
    unfold kS setL
    rw [List.map_map, List.map_map]
    refine List.map_congr_left fun x _ => ?_
    show (if (Sum.inr x.1 : Key) = Sum.inr k then _ else _) = (((Sum.inr (if x.1 = k then (k, v) else x).1 : Key)), f (if x.1 = k then (k, v) else x).2)
    by_cases e : x.1 = k
    · rw [if_pos e, if_pos (by rw [e])]
      show ((Sum.inr x.1 : Key), f v) = (Sum.inr k, f v)
      rw [e]
    · rw [if_neg e, if_neg fun z => e (Sum.inr.inj z)]
  · rw [if_neg hn, putK_new _ (by rw [valV_kS]; simpa using hn)]
    unfold kS
    rw [List.map_append]
    rfl
/-- the line that follows each line, by the lines that are not empty -/
def pairs (R : RdM) : List (Int × Int) := (R.kinds.map (·.1)).zip (R.kinds.map (·.1)).tail
def behF (l : List (Int × Int)) : List (Int × Int) := l.foldl (fun d p => putG d p.1 p.2) []
def behM (R : RdM) : List (Int × Int) := behF (pairs R)
def firF (be : List (Int × Int)) (l : List (Str × Int)) : List (Str × Int) := l.foldl (fun d x => putG d x.1 ((look be x.2).getD 0)) []
def firM (R : RdM) : List (Str × Int) := firF (behM R) R.routines
theorem behF_take {l : List (Int × Int)} {i : Nat} {p : Int × Int} (h : l[i]? = some p) : behF (l.take (i + 1)) = putG (behF (l.take i)) p.1 p.2 := by
  unfold behF
  rw [List.take_add_one, h, List.foldl_append]
  rfl
theorem firF_take {be : List (Int × Int)} {l : List (Str × Int)} {i : Nat} {p : Str × Int} (h : l[i]? = some p) : firF be (l.take (i + 1)) = putG (firF be (l.take i)) p.1 ((look be p.2).getD 0) := by
  unfold firF
  rw [List.take_add_one, h, List.foldl_append]
  rfl
theorem foldG_len {κ α β : Type} [DecidableEq κ] (k : β → κ) (v : β → α) : ∀ (l : List β) (d : List (κ × α)), (l.foldl (fun d p => putG d (k p) (v p)) d).length ≤ d.length + l.length
  | [], _ => Nat.le_refl _
  | a :: r, d => by
    have h1 := foldG_len k v r (putG d (k a) (v a))
    have h2 := putG_len d (k a) (v a)
    rw [List.foldl_cons, List.length_cons]
    omega
theorem behF_len (l : List (Int × Int)) : (behF l).length ≤ l.length := by
  have h := foldG_len (fun p : Int × Int => p.1) (fun p => p.2) l []
  simpa [behF] using h
theorem firF_len (be : List (Int × Int)) (l : List (Str × Int)) : (firF be l).length ≤ l.length := by
  have h := foldG_len (fun p : Str × Int => p.1) (fun p => (look be p.2).getD 0) l []
  simpa [firF] using h
/-- the comprehension of a table's keys -/
theorem lc_keys {d D : Addr} {od : Obj} {kvs : List (Key × V)} {H1 : Hp} {i : Nat} {σ : L2.St} {Qd : Hp → Prop} (hd : H1 d = some (.frz od (.dK kvs))) (hD : H1 D = none) (hl : kvs.length < 100000)
    (hw : ∀ v, wipe ((wipe σ [i]).set i (some v)) [i] = wipe σ [i] ∧ ((wipe σ [i]).set i (some v))[i]? = some (some v)) (q : Qd (upd H1 D (.lst (kvs.map fun e => kV e.1)))) :
    ∃ W : Nat → Nat → Hp → Prop, (∃ m, W 0 m (upd H1 D (.lst []))) ∧ ∀ j m H, W j m H →
      ((Itk d od kvs).stop j H ∧ Qd H) ∨ ((Itk d od kvs).go j H ∧ ∃ Nx : Hp → Prop, (∀ H', Nx H' → ∃ m', m' < m ∧ W (j + 1) m' H') ∧ ∀ x H', (Itk d od kvs).yld j H x H' → gName i x (wipe σ [i]) H' fun σ2 H2 => wipe σ2 [i] = wipe σ [i] ∧ tYes σ2 H2 fun b H3 =>
        if b = true then tVar i σ2 H3 fun y H4 => ∃ acc, H4 D = some (.lst acc) ∧ acc.length < sizeLine ∧ Nx (upd H4 D (.lst (acc ++ [y]))) else Nx H3) := by
  have hDd : D ≠ d := fun z => by rw [z, hd] at hD; cases hD
  refine lc_it walk_keys (fun j H3 => H3 = upd H1 D (.lst ((kvs.take j).map fun e => kV e.1))) rfl (fun j H3 _ e => by rw [e, upd_ne (Ne.symm hDd)]; exact hd) ?_ ?_
  · rintro j x H3 H4 hj rfl ⟨rfl, k2, v2, hk2, rfl⟩
    refine ⟨(hw _).1, ?_⟩
    unfold tYes
    refine x_T ?_
    refine ⟨_, (hw _).2, (kvs.take j).map (fun e => kV e.1), upd_same, ?_, ?_⟩
    · rw [List.length_map, List.length_take]
      have := big5
      omega
    · rw [upd_upd, List.take_add_one, hk2, List.map_append]
      rfl
  · rintro H3 rfl
    rw [List.take_length]
    exact q
theorem keys_kS {α : Type} (f : α → V) (l : List (Str × α)) : ((kS f l).map fun e => kV e.1) = (l.map (·.1)).map V.str := by
  unfold kS
  rw [List.map_map, List.map_map]
  rfl
theorem keys_kI {α : Type} (f : α → V) (l : List (Int × α)) : ((kI f l).map fun e => kV e.1) = (l.map (·.1)).map V.int := by
  unfold kI
  rw [List.map_map, List.map_map]
  rfl
theorem RdAt.off {C : Addr} {H : Hp} {p x : Addr} {ad : Nat → Addr} {R : RdM} {C2 dx : Addr} {fs : List (Str × V)} (r : RdAt C H p ad R) (hx : H x = some (.ins C2 dx fs)) (hp : x ≠ p) (o : HO) : RdAt C (upd H x o) p ad R := by
  obtain ⟨⟨dx0, ho⟩, htb, hin, hnp, hn⟩ := r
  have ha : ∀ j, j < 12 → ad j ≠ x := fun j hj z => by
    have e := htb j hj
    rw [z, hx] at e
    have : j = 0 ∨ j = 1 ∨ j = 2 ∨ j = 3 ∨ j = 4 ∨ j = 5 ∨ j = 6 ∨ j = 7 ∨ j = 8 ∨ j = 9 ∨ j = 10 ∨ j = 11 := by omega
    rcases this with rfl | rfl | rfl | rfl | rfl | rfl | rfl | rfl | rfl | rfl | rfl | rfl <;> cases e
  refine ⟨⟨dx0, by rw [upd_ne (Ne.symm hp)]; exact ho⟩, fun j hj => by rw [upd_ne (ha j hj)]; exact htb j hj, hin, hnp, ⟨fun y hy => ⟨?_, (hn.mo y hy).2⟩, fun y hy => ⟨?_, (hn.os y hy).2⟩, fun y hy => ⟨?_, (hn.wo y hy).2⟩⟩⟩
  · rw [upd_ne (ne_of (hn.mo y hy).1 hx fun z => by cases z)]
    exact (hn.mo y hy).1
  · rw [upd_ne (ne_of (hn.os y hy).1 hx fun z => by cases z)]
    exact (hn.os y hy).1
  · rw [upd_ne (ne_of (hn.wo y hy).1 hx fun z => by cases z)]
    exact (hn.wo y hy).1
/-- a program under way: its object at x, what was read at p -/
structure PrI (CP C dx : Addr) (H0 H : Hp) (x p : Addr) (ad : Nat → Addr) (R : RdM) (fs : List (Str × V)) : Prop where
  ob : H x = some (.ins CP dx fs)
  xp : x ≠ p
  rd : RdAt C H p ad R
  fr : ∀ b o, H0 b = some o → b ≠ x → H b = some o
section
variable {CP C dx : Addr} {H0 H : Hp} {x p : Addr} {ad : Nat → Addr} {R : RdM} {fs : List (Str × V)}
theorem PrI.set (i : PrI CP C dx H0 H x p ad R fs) (gs : List (Str × V)) : PrI CP C dx H0 (upd H x (.ins CP dx gs)) x p ad R gs :=
  ⟨upd_same, i.xp, i.rd.off i.ob i.xp _, fun b o e n => by rw [upd_ne n]; exact i.fr b o e n⟩
theorem PrI.same {H' : Hp} (i : PrI CP C dx H0 H x p ad R fs) (s : Same H H') : PrI CP C dx H0 H' x p ad R fs :=
  ⟨s _ _ i.ob, i.xp, i.rd.same s, fun b o e n => s _ _ (i.fr b o e n)⟩
theorem PrI.put {K : PySem.W.Frag} {f : Str} {v : V} {N : Hp → Prop} (i : PrI CP C dx H0 H x p ad R fs) (T : PrgTxt K CP) (hm : f ∈ pall) (hl : fs.length < 1000)
    (q : ∀ H', PrI CP C dx H0 H' x p ad R (putF f v fs) → (∀ t o, t ≠ x → H t = some o → H' t = some o) → N H') :
    ∃ fs', V.ref x = V.ref x ∧ H x = some (.ins CP dx fs') ∧ Cls K CP ∧ NoAttr K CP f ∧ fs'.length < 1000 ∧ N (upd H x (.ins CP dx (putF f v fs'))) :=
  ⟨fs, rfl, i.ob, T.cl, T.na f hm, hl, q _ (i.set _) fun t o n e => by rw [upd_ne n]; exact e⟩
end
theorem same_unlock {H H3 : Hp} {d : Addr} {u : HO} {od : Obj} (e : H d = some u) (s : Same (upd H d (.frz od u)) H3) : Same H (upd H3 d u) := fun b o q => by
  by_cases z : b = d
  · subst z
    rw [upd_same, ← q, e]
  · rw [upd_ne z]
    exact s b o (by rw [upd_ne z]; exact q)
theorem same_put {H H3 : Hp} {T D : Addr} {u w : HO} (s : Same H H3) (nT : H3 T = none) (nD : H D = none) : Same H (upd (upd H3 T u) D w) := fun b o q => by
  rw [upd_ne (ne_of_none q nD)]
  exact upd_new (s b o q) nT
theorem pairs_at {R : RdM} {i : Nat} {a b : Int} (h1 : (R.kinds.map (·.1))[i]? = some a) (h2 : (R.kinds.map (·.1)).tail[i]? = some b) : (pairs R)[i]? = some (a, b) :=
  List.getElem?_zip_eq_some.mpr ⟨h1, h2⟩
theorem pairs_len (R : RdM) : (pairs R).length = min (R.kinds.map (·.1)).length (R.kinds.map (·.1)).tail.length := List.length_zip
/-- what stays through stores at x -/
theorem keepX {H : Hp} {x t : Addr} {o u : HO} (h : H t = some o) (hx : t ≠ x) : upd H x u t = some o := by rw [upd_ne hx]; exact h
end MP
end
section
open PySem L2 MPX MP
local macro_rules | `(tactic| walk_at "rd1") => `(tactic| first
  | with_reducible refine x_seq ?_
  | with_reducible refine x_next ?_
  | with_reducible refine x_ret ?_
  | with_reducible refine x_retN ?_
  | with_reducible refine x_ifs ?_
  | with_reducible refine x_asg ?_
  | with_reducible refine x_drop ?_
  | with_reducible refine x_name ?_
  | ((with_reducible refine' x_var ?vv ?_); (case vv => exact rfl))
  | with_reducible refine x_c ?_
  | with_reducible refine x_op ?_
  | with_reducible refine x_un ?_
  | with_reducible refine x_test ?_
  | with_reducible refine x_tB ?_
  | with_reducible refine x_and ?_
  | with_reducible refine x_or ?_
  | with_reducible refine x_not ?_
  | with_reducible refine x_andV ?_
  | with_reducible refine x_orV ?_
  | with_reducible refine x_notV ?_
  | with_reducible refine x_if ?_
  | with_reducible refine x_nil ?_
  | with_reducible refine x_cons ?_
  | with_reducible refine x_tup ?_
  | with_reducible refine x_lst ?_
  | with_reducible refine x_cb ?_
  | with_reducible refine x_call ?_
  | with_reducible refine x_callS ?_
  | with_reducible refine x_callP ?_
  | with_reducible refine x_mk0 ?_
  | with_reducible refine x_mk1 ?_
  | with_reducible refine x_mk2 ?_
  | with_reducible refine x_make ?_
  | with_reducible refine x_sfld ?_
  | with_reducible refine x_din ?_
  | with_reducible refine x_dnin ?_
  | with_reducible refine x_fldS ?_
  | with_reducible refine x_sl3 ?_
  | ((with_reducible refine' r_rd ?vr ?vt ?vm ?vl ?vq); (case vr => (with_reducible assumption)); (case vt => assumption); (case vm => decide +kernel); (case vl => exact rfl))
  | with_reducible refine x_m0 ?_
  | with_reducible refine x_m1 ?_
  | with_reducible refine x_bm0 ?_
  | with_reducible refine x_bm ?_
  | with_reducible refine x_par ?_
  | with_reducible refine x_ilist ?_
  | with_reducible refine x_itup ?_
  | with_reducible refine x_istr ?_
  | ((with_reducible show tLc _ _ _ _ _ _ _ _); unfold tLc)
  | ((with_reducible show tFor _ _ _ _ _ _); unfold tFor)
  | ((with_reducible refine' x_eq ?vv ?_); (case vv => exact rfl))
  | ((with_reducible refine' x_ne ?vv ?_); (case vv => exact rfl))
  | with_reducible refine x_rI0 ?_
  | with_reducible refine x_dgetR ?_
  | with_reducible refine x_dputR ?_
  | with_reducible refine x_dnew ?_
  | with_reducible refine x_dget1 ?_
  | with_reducible refine x_dget2 ?_
  | with_reducible refine x_sl ?_
  | with_reducible refine x_nopart ?_
  | with_reducible refine x_part ?_
  | ((with_reducible refine' x_slL ?vv ?_); (case vv => (with_reducible assumption)))
  | with_reducible refine x_disp ?_
  | with_reducible refine x_pcons ?_
  | with_reducible refine x_pnil ?_
  | ((with_reducible refine' x_mod ?vv ?_); (case vv => omega); intro r er hr0 hr1; (try clear er))
  | ((with_reducible refine' x_rI ?vv ?_); (case vv => walk_at "sc"))
  | (with_reducible refine Or.inl (Exists.intro _ (And.intro rfl ?_)))
  | with_reducible refine x_T ?_
  | with_reducible refine x_F ?_
  | ((with_reducible show Exists (α := V) _); (with_reducible apply Exists.intro))
  | ((with_reducible show Exists (α := Bool) _); (with_reducible apply Exists.intro))
  | ((with_reducible show Exists (α := Nat) _); (with_reducible apply Exists.intro))
  | ((with_reducible show Exists (α := Int) _); (with_reducible apply Exists.intro))
  | ((with_reducible show Exists (α := List V) _); (with_reducible apply Exists.intro))
  | ((with_reducible show Exists (α := PySem.Str) _); (with_reducible apply Exists.intro))
  | ((with_reducible show Exists (α := Option V) _); (with_reducible apply Exists.intro))
  | ((with_reducible show Exists (α := Option Int) _); (with_reducible apply Exists.intro))
  | ((with_reducible show Exists (α := List (Key × V)) _); (with_reducible apply Exists.intro))
  | refine And.intro rfl ?_
  | ((with_reducible refine And.intro ?vv ?_); (case vv => (first | (with_reducible assumption) | (show _ ≤ sizeLine; decide) | exact len_ok rfl)))
  | (refine And.intro (Exists.intro _ rfl) ?_))
local macro_rules | `(tactic| walk_at "sc") => `(tactic| first
  | (with_reducible assumption)
  | exact divW (by omega) (by omega)
  | exact mulW (by omega) (by omega)
  | exact Or.inl ⟨by omega, by omega⟩
  | exact Or.inr ⟨by omega, by omega⟩
  | (show (_ : Int) ≠ 0; omega)
  | exact ⟨by decide, by decide, by decide⟩
  | decide)
local macro_rules | `(tactic| walk_at "rd") => `(tactic| repeat walk_at "rd1")
namespace MP
open PySem L2
section
variable {P : Program} {w : World} {K : PySem.W.Frag} {mg : Str → Option Value} {base : Heap} {ts : Nat → Tok} {kw C CB CT CP CM : Addr}
abbrev s_Program___init__ : Stmt := inClass (topS 41) 0
abbrev N_Program___init__ : List Str := ["self", "text", "reading", "mode", "name", "rows", "line", "other"]
abbrev P_Program___init__ : List Str := ["self", "text"]
theorem sc_Program___init__ : FnScope N_Program___init__ P_Program___init__ (defScope s_Program___init__) := ⟨rfl, rfl, rfl, by decide +kernel, rfl, by decide +kernel, by decide +kernel⟩
structure InitTxt (P : Program) (K : PySem.W.Frag) (mg : Str → Option Value) (C CP : Addr) : Prop where
  rd : RdTxt K C
  pg : PrgTxt K CP
  b_tuple : mg "tuple" = none
  b_zip : mg "zip" = none
/-- the end of a text for a program -/
def FinP (CP CB : Addr) (H : Hp) (x : Addr) (z : Str) (n : Nat) (Q : VK) (E : XK) (R : RdM) : Prop :=
  (endOk R → (∀ y ∈ R.routines, (look (behM R) y.2).isSome = true) ∧ (Sm R → Sm2 R → ∀ ad mo pr bh fh H', (∀ b o, H b = some o → b ≠ x → H' b = some o) → ProgAt CP H' x ad mo pr bh fh R z (behM R) (firM R) → H' (ad 4) = some (.dK (kI V.str R.owners)) → Q .non H')) ∧
  (¬ endOk R → ErrD CB "line" (.int (n + 1)) H E)
def sp_pinit (CP CB CT : Addr) : Sp := fun vs H Q E => ∃ (x dx : Addr) (z : Str), vs = [.ref x, .str z] ∧ H x = some (.ins CP dx []) ∧ z.length + 2 ≤ sizeLine ∧ (6000 < z.length → ErrD CT "what" (.str "characters") H E) ∧ (z.length ≤ 6000 → 120 < (PySem.Txt.split z "\n").length → ErrD CT "what" (.str "lines") H E) ∧
  (z.length ≤ 6000 → (PySem.Txt.split z "\n").length ≤ 120 → RunW isName isPrice priceOf itemOf wordsOf (FinP CP CB H x z (PySem.Txt.split z "\n").length Q E) (fun line => ErrD CB "line" (.int line) H E) (PySem.Txt.split z "\n") RdM.empty 1)
theorem ok_pinit {f : Addr} {fd : FuncData} (F : Fun K "__init__" "Program.__init__" s_Program___init__ f fd) (T : InitTxt P K mg C CP) (c_read_text : Cal P w K mg base 7 "read_text" (sp_read_text C CB CT)) : FnOk P w K mg base (L2.CX P w) 8 f fd P_Program___init__ (sp_pinit CP CB CT) := by
  refine F.okX sc_Program___init__ (fun vs H Q E h => ?_) (fun cdv A outer s H vs Q E hr h => ?_)
  · obtain ⟨x, dx, z, rfl, _⟩ := h
    rfl
  · obtain ⟨x, dx, z, rfl, hx, hz, kc, kl, kr⟩ := h
    have hu := hu_of hr
    have Tr := T.rd
    refine ⟨_, (pss_cons (ps_set (i := 2) sc_Program___init__.nd rfl (Or.inl rfl) (pe_cs c_read_text hr (by decide) rfl (fun σ => passAt (takes_of rfl rfl rfl rfl) σ) (pa_cons (pv 1) pa_nil)))
      (pss_cons (ps_fld (pv 0) (pv 1) rfl)
      (pss_cons (ps_fld (pv 0) (pe_callTy (call_tuple_K (rfl : _ = K)) (by rfl) T.b_tuple (by decide +kernel) (pa_cons (pe_lock (pe_lc (own := [("mode", 3)]) (g := gName 3) (tt := tYes) rfl sc_Program___init__.nd (pi_keys (pe_fld (pv 2) rfl)) (blkOk_by (own := [("mode", 3)]) (N := N_Program___init__) (sc := defScope s_Program___init__) (by decide +kernel)) (fun _ _ _ _ _ => (pg_name (i := 3) sc_Program___init__.nd rfl (Or.inl rfl))) (fun _ _ _ _ _ => pts_nil) (fun _ _ _ _ _ => (pv 3)))) pa_nil)) rfl)
      (pss_cons (ps_fld (pv 0) (pe_callTy (call_tuple_K (rfl : _ = K)) (by rfl) T.b_tuple (by decide +kernel) (pa_cons (pe_lock (pe_lc (own := [("name", 4)]) (g := gName 4) (tt := tYes) rfl sc_Program___init__.nd (pi_keys (pe_fld (pv 2) rfl)) (blkOk_by (own := [("name", 4)]) (N := N_Program___init__) (sc := defScope s_Program___init__) (by decide +kernel)) (fun _ _ _ _ _ => (pg_name (i := 4) sc_Program___init__.nd rfl (Or.inl rfl))) (fun _ _ _ _ _ => pts_nil) (fun _ _ _ _ _ => (pv 4)))) pa_nil)) rfl)
      (pss_cons (ps_fld (pv 0) (pe_fld (pv 2) rfl) rfl)
      (pss_cons (ps_fld (pv 0) (pe_fld (pv 2) rfl) rfl)
      (pss_cons (ps_fld (pv 0) (pe_fld (pv 2) rfl) rfl)
      (pss_cons (ps_fld (pv 0) (pe_fld (pv 2) rfl) rfl)
      (pss_cons (ps_fld (pv 0) (pe_fld (pv 2) rfl) rfl)
      (pss_cons (ps_fld (pv 0) (pe_fld (pv 2) rfl) rfl)
      (pss_cons (ps_fld (pv 0) (pe_fld (pv 2) rfl) rfl)
      (pss_cons (ps_fld (pv 0) (pe_fld (pv 2) rfl) rfl)
      (pss_cons (ps_fld (pv 0) (pe_fld (pv 2) rfl) rfl)
      (pss_cons (ps_fld (pv 0) (pe_fld (pv 2) rfl) rfl)
      (pss_cons (ps_lock (ps_setLc (i := 5) (own := [("line", 6)]) (g := gName 6) (tt := tYes) rfl sc_Program___init__.nd rfl rfl (sw_true rfl rfl rfl (by decide +kernel)) (pi_keys (pe_fld (pv 0) rfl)) (blkOk_by (own := [("line", 6)]) (N := N_Program___init__) (sc := defScope s_Program___init__) (by decide +kernel)) (fun _ _ _ _ _ => (pg_name (i := 6) sc_Program___init__.nd rfl (Or.inl rfl))) (fun _ _ _ _ _ => pts_nil) (fun _ _ _ _ _ => (pv 6))))
      (pss_cons (ps_fld (pv 0) (pe_dc (own := [("line", 6), ("other", 7)]) (g := gTup K 2 (gCons (gName 6) (gCons (gName 7) gNil))) (tt := tYes) rfl sc_Program___init__.nd (pi_zip (by rfl) T.b_zip (pa_cons (pv 5) (pa_cons (pe_slice sl_list (pv 5) (po_some pe_int) po_none) pa_nil))) (blkOk_by (own := [("line", 6), ("other", 7)]) (N := N_Program___init__) (sc := defScope s_Program___init__) (by decide +kernel)) (fun _ _ _ _ _ => (pg_tup rfl (pgs_cons (pg_name (i := 6) sc_Program___init__.nd rfl (Or.inl rfl)) (pgs_cons (pg_name (i := 7) sc_Program___init__.nd rfl (Or.inl rfl)) pgs_nil)))) (fun _ _ _ _ _ => pts_nil) (fun _ _ _ _ _ => (pv 6)) (fun _ _ _ _ _ => (pv 7))) rfl)
      (pss_one (ps_fld (pv 0) (pe_lock (pe_dc (own := [("name", 4), ("line", 6)]) (g := gTup K 2 (gCons (gName 4) (gCons (gName 6) gNil))) (tt := tYes) rfl sc_Program___init__.nd (pi_items (pe_fld (pv 2) rfl)) (blkOk_by (own := [("name", 4), ("line", 6)]) (N := N_Program___init__) (sc := defScope s_Program___init__) (by decide +kernel)) (fun _ _ _ _ _ => (pg_tup rfl (pgs_cons (pg_name (i := 4) sc_Program___init__.nd rfl (Or.inl rfl)) (pgs_cons (pg_name (i := 6) sc_Program___init__.nd rfl (Or.inl rfl)) pgs_nil)))) (fun _ _ _ _ _ => pts_nil) (fun _ _ _ _ _ => (pv 4)) (fun _ _ _ _ _ => (pe_dget hu (pe_fldK (rfl : _ = K) (pv 0) rfl) (pv 6) (fun _ _ => rfl))))) rfl)))))))))))))))))), ?_⟩
    show tSeq _ _ _ [some (V.ref x), some (V.str z), none, none, none, none, none, none] H
    walk_at "rd"
    refine ⟨z, rfl, hz, kc, kl, fun g1 g2 => RunW.mono (fun R hF => ⟨fun ok sm sm2 p ad H1 s1 r => ?_, hF.2⟩) (fun _ h => h) (kr g1 g2)⟩
    obtain ⟨hfir, kq⟩ := hF.1 ok
    replace kq := kq sm sm2
    clear kr kc kl hF
    have hx1 := s1 _ _ hx
    have xp : x ≠ p := fun e => by
      obtain ⟨dx2, hob⟩ := r.ob
      rw [← e, hx1] at hob
      cases hob
    have i0 : PrI CP C dx H H1 x p ad R [] := ⟨hx1, xp, r, fun b o e _ => s1 _ _ e⟩
    clear r hx1 s1
    walk_at "rd"
    refine i0.put T.pg (by decide +kernel) (Nat.le_of_ble_eq_true rfl) fun H2 i1 _ => ?_
    clear i0
    walk_at "rd"
    have r1 := i1.rd
    refine ⟨ad 0, _, r1.t0, trivial, fun od => ?_⟩
    walk_at "rd"
    refine x_ikeys ?_
    walk_at "rd"
    obtain ⟨dxr, hobr⟩ := r1.ob
    refine r_rdO (by rw [upd_ne (r1.np 0 (by decide))]; exact hobr) T.rd (by decide +kernel) rfl ?_
    refine ⟨ad 0, od, rfl, Or.inl ⟨_, upd_same, fun D hD => ?_⟩⟩
    refine lc_keys upd_same hD (by rw [kS_len]; exact lt5 sm.s0) (fun _ => ⟨rfl, rfl⟩) ?_
    rw [keys_kS]
    refine ⟨by rw [upd_ne fun z => by rw [← z, upd_same] at hD; cases hD]; exact upd_same, ?_⟩
    obtain ⟨sL, eD⟩ := same_lock (w := .lst ((R.modes.map (·.1)).map V.str)) r1.t0 hD
    generalize upd (upd (upd H2 (ad 0) _) D _) (ad 0) _ = H1L at sL eD ⊢
    show tNil _ _ _
    walk_at "rd"
    refine x_tupL (SqL.of eD) fun mo nmo => ?_
    have i1b := i1.same (sL.trans (same_upd (o := .tup ((R.modes.map (·.1)).map V.str)) nmo))
    have hmo : upd H1L mo (.tup ((R.modes.map (·.1)).map V.str)) mo = _ := upd_same
    have smo := sL.trans (same_upd (o := .tup ((R.modes.map (·.1)).map V.str)) nmo)
    clear r1 i1 sL eD hobr hD
    generalize upd H1L mo _ = H1T at i1b hmo smo ⊢
    have xmo : mo ≠ x := ne_of hmo i1b.ob fun z => by cases z
    walk_at "rd"
    refine i1b.put T.pg (by decide +kernel) (Nat.le_of_ble_eq_true rfl) fun H3 i2 k2 => ?_
    replace hmo := k2 _ _ xmo hmo
    clear i1b k2 smo
    walk_at "rd"
    have r2 := i2.rd
    refine ⟨ad 2, _, r2.t2, trivial, fun od => ?_⟩
    walk_at "rd"
    refine x_ikeys ?_
    walk_at "rd"
    obtain ⟨dxr, hobr⟩ := r2.ob
    refine r_rdO (by rw [upd_ne (r2.np 2 (by decide))]; exact hobr) T.rd (by decide +kernel) rfl ?_
    refine ⟨ad 2, od, rfl, Or.inl ⟨_, upd_same, fun D hD => ?_⟩⟩
    refine lc_keys upd_same hD (by rw [kS_len]; exact lt5 sm.s2) (fun _ => ⟨rfl, rfl⟩) ?_
    rw [keys_kS]
    refine ⟨by rw [upd_ne fun z => by rw [← z, upd_same] at hD; cases hD]; exact upd_same, ?_⟩
    obtain ⟨sL, eD⟩ := same_lock (w := .lst ((R.routines.map (·.1)).map V.str)) r2.t2 hD
    generalize upd (upd (upd H3 (ad 2) _) D _) (ad 2) _ = H2L at sL eD ⊢
    show tNil _ _ _
    walk_at "rd"
    refine x_tupL (SqL.of eD) fun pr npr => ?_
    have i2b := i2.same (sL.trans (same_upd (o := .tup ((R.routines.map (·.1)).map V.str)) npr))
    have hpr : upd H2L pr (.tup ((R.routines.map (·.1)).map V.str)) pr = _ := upd_same
    have spr := sL.trans (same_upd (o := .tup ((R.routines.map (·.1)).map V.str)) npr)
    clear r2 i2 sL eD hobr hD
    generalize upd H2L pr _ = H2T at i2b hpr spr ⊢
    have xpr : pr ≠ x := ne_of hpr i2b.ob fun z => by cases z
    walk_at "rd"
    replace hmo := spr _ _ hmo
    refine i2b.put T.pg (by decide +kernel) (Nat.le_of_ble_eq_true rfl) fun H4 i3 k3 => ?_
    replace hmo := k3 _ _ xmo hmo
    replace hpr := k3 _ _ xpr hpr
    clear i2b k3 spr
    have r3 := i3.rd
    walk_at "rd"
    refine i3.put T.pg (by decide +kernel) (Nat.le_of_ble_eq_true rfl) fun H5 i4 k4 => ?_
    replace hmo := k4 _ _ xmo hmo
    replace hpr := k4 _ _ xpr hpr
    clear i3 k4 r3
    have r4 := i4.rd
    walk_at "rd"
    refine i4.put T.pg (by decide +kernel) (Nat.le_of_ble_eq_true rfl) fun H6 i5 k5 => ?_
    replace hmo := k5 _ _ xmo hmo
    replace hpr := k5 _ _ xpr hpr
    clear i4 k5 r4
    have r5 := i5.rd
    walk_at "rd"
    refine i5.put T.pg (by decide +kernel) (Nat.le_of_ble_eq_true rfl) fun H7 i6 k6 => ?_
    replace hmo := k6 _ _ xmo hmo
    replace hpr := k6 _ _ xpr hpr
    clear i5 k6 r5
    have r6 := i6.rd
    walk_at "rd"
    refine i6.put T.pg (by decide +kernel) (Nat.le_of_ble_eq_true rfl) fun H8 i7 k7 => ?_
    replace hmo := k7 _ _ xmo hmo
    replace hpr := k7 _ _ xpr hpr
    clear i6 k7 r6
    have r7 := i7.rd
    walk_at "rd"
    refine i7.put T.pg (by decide +kernel) (Nat.le_of_ble_eq_true rfl) fun H9 i8 k8 => ?_
    replace hmo := k8 _ _ xmo hmo
    replace hpr := k8 _ _ xpr hpr
    clear i7 k8 r7
    have r8 := i8.rd
    walk_at "rd"
    refine i8.put T.pg (by decide +kernel) (Nat.le_of_ble_eq_true rfl) fun H10 i9 k9 => ?_
    replace hmo := k9 _ _ xmo hmo
    replace hpr := k9 _ _ xpr hpr
    clear i8 k9 r8
    have r9 := i9.rd
    walk_at "rd"
    refine i9.put T.pg (by decide +kernel) (Nat.le_of_ble_eq_true rfl) fun H11 i10 k10 => ?_
    replace hmo := k10 _ _ xmo hmo
    replace hpr := k10 _ _ xpr hpr
    clear i9 k10 r9
    have r10 := i10.rd
    walk_at "rd"
    refine i10.put T.pg (by decide +kernel) (Nat.le_of_ble_eq_true rfl) fun H12 i11 k11 => ?_
    replace hmo := k11 _ _ xmo hmo
    replace hpr := k11 _ _ xpr hpr
    clear i10 k11 r10
    have r11 := i11.rd
    walk_at "rd"
    refine i11.put T.pg (by decide +kernel) (Nat.le_of_ble_eq_true rfl) fun H13 i12 k12 => ?_
    replace hmo := k12 _ _ xmo hmo
    replace hpr := k12 _ _ xpr hpr
    clear i11 k12 r11
    have r12 := i12.rd
    walk_at "rd"
    refine i12.put T.pg (by decide +kernel) (Nat.le_of_ble_eq_true rfl) fun H14 i13 k13 => ?_
    replace hmo := k13 _ _ xmo hmo
    replace hpr := k13 _ _ xpr hpr
    clear i12 k13 r12
    have r13 := i13.rd
    walk_at "rd"
    have xa : ∀ j, j < 12 → x ≠ ad j := fun j hj z => by
      have e := r13.tab j hj
      rw [← z, i13.ob] at e
      rcases in12 hj with rfl | rfl | rfl | rfl | rfl | rfl | rfl | rfl | rfl | rfl | rfl | rfl <;> cases e
    refine ⟨ad 3, _, r13.t3, trivial, fun od => ?_⟩
    walk_at "rd"
    refine x_ikeys ?_
    walk_at "rd"
    refine ⟨x, CP, dx, _, _, rfl, by rw [upd_ne (xa 3 (by decide))]; exact i13.ob, T.pg.cl, T.pg.na _ (by decide +kernel), rfl, ?_⟩
    refine ⟨ad 3, od, rfl, Or.inl ⟨_, upd_same, fun D hD => ?_⟩⟩
    refine lc_keys upd_same hD (by rw [kI_len]; exact lt5 sm.s3) (fun _ => ⟨rfl, rfl⟩) ?_
    rw [keys_kI]
    walk_at "rd"
    refine ⟨by rw [upd_ne fun z => by rw [← z, upd_same] at hD; cases hD]; exact upd_same, ?_⟩
    obtain ⟨sL, eD⟩ := same_lock (w := .lst ((R.kinds.map (·.1)).map V.int)) r13.t3 hD
    generalize upd (upd (upd H14 (ad 3) _) D _) (ad 3) _ = H15 at sL eD ⊢
    have i14 := i13.same sL
    replace hmo := sL _ _ hmo
    replace hpr := sL _ _ hpr
    clear i13 r13 sL hD
    walk_at "rd"
    unfold tDc
    refine x_izip ?_
    walk_at "rd"
    refine x_slL (SqL.of eD) fun l2 nl2 => ?_
    have s2 := same_upd (o := .lst (cutV ((R.kinds.map (·.1)).map V.int) (some 1) none)) nl2
    have e2 : upd H15 l2 (.lst (cutV ((R.kinds.map (·.1)).map V.int) (some 1) none)) l2 = some (.lst ((R.kinds.map (·.1)).tail.map V.int)) := by
      rw [upd_same, show (some (1 : Int)) = some ((1 : Nat) : Int) from rfl, cutV_from, ← List.map_drop, List.drop_one]
    have i15 := i14.same s2
    replace hmo := s2 _ _ hmo
    replace hpr := s2 _ _ hpr
    replace eD := s2 _ _ eD
    generalize upd H15 l2 _ = H16 at s2 e2 i15 hmo hpr eD ⊢
    clear i14 s2 nl2
    walk_at "rd"
    refine ⟨SqL.of eD, SqL.of e2, fun D2 hD2 => ?_⟩
    have hb4 : D2 ≠ ad 4 := fun z => by rw [z, i15.rd.t4] at hD2; cases hD2
    have hb2 : D2 ≠ ad 2 := fun z => by rw [z, i15.rd.t2] at hD2; cases hD2
    refine dc_it (walk_zip (n := (pairs R).length) (by simp [pairs_len])) (fun i H3 => Hold (H3 D2 = some (.dK (kI V.int (behF ((pairs R).take i)))) ∧ Same H16 H3)) ⟨upd_same, same_upd hD2⟩ (fun i H3 _ ⟨_, s⟩ => ⟨SqL.of (s _ _ eD), SqL.of (s _ _ e2)⟩) ?_ ?_
    · rintro i v H3 H4 hi ⟨h3, s3⟩ ⟨T1, vx, vy, rfl, nT, rfl, hx, hy⟩
      replace hx : ((R.kinds.map (·.1)).map V.int)[i]? = some vx := hx
      replace hy : ((R.kinds.map (·.1)).tail.map V.int)[i]? = some vy := hy
      rw [List.getElem?_map] at hx hy
      obtain ⟨a, ha, rfl⟩ := Option.map_eq_some_iff.mp hx
      obtain ⟨b, hb, rfl⟩ := Option.map_eq_some_iff.mp hy
      have hp := pairs_at ha hb
      refine x_gtup2 upd_same ?_
      walk_at "rd"
      unfold tYes
      refine x_T ?_
      walk_at "rd"
      refine ⟨Sum.inl a, rfl, upd_new h3 nT, ?_, ⟨?_, same_put s3 nT hD2⟩⟩
      · rw [kI_len]
        have h1 := behF_len ((pairs R).take i)
        rw [List.length_take] at h1
        have h2 := pairs_len R
        rw [List.length_map] at h2
        have h3 := sm.s3
        have := big5
        omega
      · rw [upd_same, putK_kI, behF_take hp]
    · rintro H17 ⟨hbh, s3⟩
      rw [List.take_length] at hbh
      replace hbh : H17 D2 = some (.dK (kI V.int (behM R))) := hbh
      have i16 := i15.same s3
      replace hmo := s3 _ _ hmo
      replace hpr := s3 _ _ hpr
      clear i15 s3 eD e2 hD2
      walk_at "rd"
      have xbh : D2 ≠ x := ne_of hbh i16.ob fun z => by cases z
      refine i16.put T.pg (by decide +kernel) (Nat.le_of_ble_eq_true rfl) fun H18 i17 k17 => ?_
      replace hmo := k17 _ _ xmo hmo
      replace hpr := k17 _ _ xpr hpr
      replace hbh := k17 _ _ xbh hbh
      clear i16 k17
      have r17 := i17.rd
      walk_at "rd"
      refine ⟨ad 2, _, r17.t2, trivial, fun od => ?_⟩
      refine x_iitems ?_
      walk_at "rd"
      obtain ⟨dxr, hobr⟩ := r17.ob
      refine r_rdO (by rw [upd_ne (r17.np 2 (by decide))]; exact hobr) T.rd (by decide +kernel) rfl ?_
      refine ⟨ad 2, od, _, rfl, upd_same, fun D3 hD3 => ?_⟩
      have hf4 : D3 ≠ ad 4 := fun z => by
        rw [z, upd_ne fun q => absurd (r17.inj 4 2 (by decide) (by decide) q) (by decide), r17.t4] at hD3
        cases hD3
      have hbhL := keepX (u := .frz od (.dK (kS V.int R.routines))) hbh hb2
      have hobL := keepX (u := .frz od (.dK (kS V.int R.routines))) i17.ob (xa 2 (by decide))
      refine dc_it walk_items (fun i H3 => Hold (H3 D3 = some (.dK (kS V.int (firF (behM R) (R.routines.take i)))) ∧ Same (upd H18 (ad 2) (.frz od (.dK (kS V.int R.routines)))) H3)) ⟨upd_same, same_upd hD3⟩ (fun i H3 _ ⟨_, s⟩ => s _ _ upd_same) ?_ ?_
      · rintro i v H3 H4 hi ⟨h3, s3⟩ ⟨T1, vx, vy, rfl, nT, rfl, hx, hy⟩
        replace hx : (kS V.int R.routines)[i]?.map (fun kv => kV kv.1) = some vx := hx
        replace hy : (kS V.int R.routines)[i]?.map Prod.snd = some vy := hy
        unfold kS at hx hy
        rw [List.getElem?_map] at hx hy
        cases hc : R.routines[i]? with
        | none => rw [hc] at hx; cases hx
        | some c =>
          rw [hc] at hx hy
          cases hx
          cases hy
          obtain ⟨n, hn⟩ := Option.isSome_iff_exists.mp (hfir c (List.mem_of_getElem? hc))
          have sT := s3.trans (same_upd (o := .tup [V.str c.1, V.int c.2]) nT)
          refine x_gtup2 upd_same ?_
          walk_at "rd"
          unfold tYes
          refine x_T ?_
          walk_at "rd"
          refine ⟨x, CP, dx, _, _, rfl, sT _ _ hobL, T.pg.cl, T.pg.na _ (by decide +kernel), rfl, ?_⟩
          walk_at "rd"
          refine r_getI (sT _ _ hbhL) hn ?_
          refine ⟨_, Sum.inr c.1, rfl, upd_new h3 nT, ?_, ⟨?_, same_put s3 nT hD3⟩⟩
          · rw [kS_len]
            have h1 := firF_len (behM R) (R.routines.take i)
            rw [List.length_take] at h1
            have h3 := sm.s2
            have := big5
            omega
          · rw [upd_same, putK_kS, firF_take hc, hn]
            rfl
      · rintro H19 ⟨hfh, s3⟩
        rw [kS_len, List.take_length] at hfh
        have e2 : H19 (ad 2) = some (.frz od (.dK (kS V.int R.routines))) := s3 _ _ upd_same
        refine ⟨e2, ?_⟩
        have s4 := same_unlock r17.t2 s3
        replace hfh : upd H19 (ad 2) (.dK (kS V.int R.routines)) D3 = some (.dK (kS V.int (firM R))) := by
          rw [upd_ne (ne_of hfh e2 fun z => by cases z)]
          exact hfh
        generalize upd H19 (ad 2) _ = H20 at s4 hfh ⊢
        have i18 := i17.same s4
        replace hmo := s4 _ _ hmo
        replace hpr := s4 _ _ hpr
        replace hbh := s4 _ _ hbh
        clear i17 r17 s4 s3 e2 hobL hbhL hobr
        have xfh : D3 ≠ x := ne_of hfh i18.ob fun z => by cases z
        walk_at "rd"
        refine i18.put T.pg (by decide +kernel) (Nat.le_of_ble_eq_true rfl) fun H21 i19 k19 => ?_
        replace hmo := k19 _ _ xmo hmo
        replace hpr := k19 _ _ xpr hpr
        replace hbh := k19 _ _ xbh hbh
        replace hfh := k19 _ _ xfh hfh
        walk_at "rd"
        exact kq ad mo pr D2 D3 _ i19.fr ⟨⟨dx, i19.ob⟩, hmo, hpr, hbh, hfh, fun j hj _ => i19.rd.tab j (Nat.lt_of_lt_of_le hj (by decide)), .inl i19.rd.t4, ⟨fun j hj h4 q => h4 (i19.rd.inj j 4 (Nat.lt_of_lt_of_le hj (by decide)) (by decide) q), hb4, hf4⟩, i19.rd.ne⟩ i19.rd.t4
end
end MP
end
section
namespace MP
open PySem L2
/-! ### the lines that come next: mirrors; none where a table lacks a line -/
def stepL (R : RdM) (be : List (Int × Int)) (l : Int) : Option (List Int) :=
  (look R.kinds l).bind fun k =>
  if k = ("either" : Str) then (look be l).bind fun b => (look R.ors l).bind fun y => (y.2.mapM (look be)).map fun r => b :: r
  else if k = ("or" : Str) then (look R.partners l).bind fun p => (look R.partners p).bind fun q => (look be q).map fun c => [c]
  else if k = ("loop" : Str) then (look be l).bind fun b => (look R.partners l).bind fun p => (look be p).map fun c => [b, c]
  else if k = ("leave" : Str) then (look R.leaves l).bind fun p => (look R.partners p).bind fun q => (look be q).map fun c => [c]
  else if k = ("end" : Str) ∧ (look R.partners l).isSome = true then (look R.partners l).bind fun p => (look R.kinds p).bind fun fk =>
    if fk = ("loop" : Str) then (look be p).bind fun f => (look be l).map fun b => [f, b]
    else if fk = ("ever" : Str) then (look be p).map fun f => [f] else (look be l).map fun b => [b]
  else if k ∈ (["do", "ever"] : List Str) then (look be l).map fun b => [b] else some []
/-- the end of a procedure, or a way back -/
def isBack (R : RdM) (k : Str) (l : Int) : Bool := decide (k = ("back" : Str)) || (decide (k = ("end" : Str)) && !(look R.partners l).isSome)
def follL (R : RdM) (be : List (Int × Int)) (fi : List (Str × Int)) (l : Int) (op : List Int) : Option (List Int) :=
  (look R.kinds l).bind fun k =>
  if k = ("call" : Str) then (look R.calls l).bind fun n => (look fi n).map fun f => [f]
  else if k = ("stop" : Str) then some []
  else if isBack R k l = true then match op.getLast? with
    | none => some []
    | some c => (look be c).map fun b => [b]
  else stepL R be l
/-- what the line before did to the open calls -/
def doneL (R : RdM) (op : List Int) (b : Int) : Option (List Int) :=
  (look R.kinds b).bind fun k => if k = ("call" : Str) then some (op ++ [b]) else if isBack R k b = true then (if op = [] then none else some op.dropLast) else some op
/-- the open calls ahead of what the last line does, or the index of the first line to which no run comes -/
def walkL (R : RdM) (be : List (Int × Int)) (fi : List (Str × Int)) : List Int → Nat → Option Int → List Int → List Int → Option (Nat ⊕ List Int)
  | [], _, _, op, _ => some (.inr op)
  | l :: r, i, pv, op, al => if l ∈ al then (match pv with
      | none => some op
      | some b => doneL R op b).bind fun op2 => (follL R be fi l op2).bind fun al2 => walkL R be fi r (i + 1) (some l) op2 al2
    else some (.inl i)
def walkedL (R : RdM) (be : List (Int × Int)) (fi : List (Str × Int)) (ls : List Int) : Option (Nat ⊕ List Int) := (look fi ("main" : Str)).bind fun f => walkL R be fi ls 0 none [] [f]
theorem same_at {H H' : Hp} {o : Addr} {u : HO} (s : Same H H') (n : H o = none) : Same H (upd H' o u) := fun b w e => by
  rw [upd_ne (ne_of_none e n)]
  exact s b w e
theorem mapM_at {α β : Type} {f : α → Option β} : ∀ {l : List α} {r : List β}, l.mapM f = some r → r.length = l.length ∧ ∀ (i : Nat) (a : α), l[i]? = some a → ∃ b, r[i]? = some b ∧ f a = some b
  | [], r, h => by
    have e : r = [] := by simpa using h.symm
    subst e
    exact ⟨rfl, fun i a h => by simp at h⟩
  | c :: l, r, h => by
    rw [List.mapM_cons] at h
    obtain ⟨b, hb, h⟩ := Option.bind_eq_some_iff.mp h
    obtain ⟨r2, hr2, h⟩ := Option.bind_eq_some_iff.mp h
    cases h
    obtain ⟨h1, h2⟩ := mapM_at hr2
    refine ⟨by rw [List.length_cons, List.length_cons, h1], fun i a ha => ?_⟩
    cases i with
    | zero =>
      have e : c = a := by simpa using ha
      subst e
      exact ⟨b, rfl, hb⟩
    | succ i => exact h2 i a (by simpa using ha)
theorem x_star {K : PySem.W.Frag} {te : TE} {t : TA} {σ : L2.St} {H : Hp} {Q : List V → Hp → Prop} (h : te σ H fun x H1 => ∃ (p : Addr) (xs : List V), x = V.ref p ∧ (SqT K H1 p xs ∨ SqL K H1 p xs) ∧ t σ H1 fun ys H2 => Q (xs ++ ys) H2) : StX.tStar K te t σ H Q := h
theorem x_ixSeqT {K : PySem.W.Frag} {H : Hp} {Q : VK} {a : Addr} {xs : List V} {i : Int} {v : V} (hs : SqT K H a xs) (ha : atI xs i = some v) (h : Q v H) : rIx K (.ref a) (.int i) H Q := .inr (.inl (x_ixT hs ha h))
theorem inV_ints (z : Int) (l : List Int) : inV (.int z) (l.map V.int) = decide (z ∈ l) := by
  induction l with
  | nil => rfl
  | cons a r ih =>
    show (eqV (.int a) (.int z) || inV (.int z) (r.map V.int)) = _
    rw [ih]
    show ((a == z) || decide (z ∈ r)) = _
    by_cases h : a = z
    · subst h
      simp
    · have e : (a == z) = false := by simpa using h
      rw [e]
      simp [List.mem_cons, Ne.symm h]
end MP
end
section
open PySem L2 MPX MP
local macro_rules | `(tactic| walk_at "rd1") => `(tactic| first
  | with_reducible refine x_seq ?_
  | with_reducible refine x_next ?_
  | with_reducible refine x_ret ?_
  | with_reducible refine x_retN ?_
  | with_reducible refine x_ifs ?_
  | with_reducible refine x_asg ?_
  | with_reducible refine x_drop ?_
  | with_reducible refine x_name ?_
  | ((with_reducible refine' x_var ?vv ?_); (case vv => exact rfl))
  | with_reducible refine x_c ?_
  | with_reducible refine x_op ?_
  | with_reducible refine x_un ?_
  | with_reducible refine x_test ?_
  | with_reducible refine x_tB ?_
  | with_reducible refine x_and ?_
  | with_reducible refine x_or ?_
  | with_reducible refine x_not ?_
  | with_reducible refine x_andV ?_
  | with_reducible refine x_orV ?_
  | with_reducible refine x_notV ?_
  | with_reducible refine x_if ?_
  | with_reducible refine x_nil ?_
  | with_reducible refine x_cons ?_
  | with_reducible refine x_tup ?_
  | with_reducible refine x_lst ?_
  | with_reducible refine x_cb ?_
  | with_reducible refine x_call ?_
  | with_reducible refine x_callS ?_
  | with_reducible refine x_callP ?_
  | with_reducible refine x_mk0 ?_
  | with_reducible refine x_mk1 ?_
  | with_reducible refine x_mk2 ?_
  | with_reducible refine x_make ?_
  | with_reducible refine x_sfld ?_
  | with_reducible refine x_din ?_
  | with_reducible refine x_dnin ?_
  | with_reducible refine x_fldS ?_
  | with_reducible refine x_sl3 ?_
  | ((with_reducible refine' r_pg ?vr ?vt ?vm ?vl ?vq); (case vr => (with_reducible assumption)); (case vt => assumption); (case vm => decide +kernel); (case vl => exact rfl))
  | with_reducible refine x_m0 ?_
  | with_reducible refine x_m1 ?_
  | with_reducible refine x_bm0 ?_
  | with_reducible refine x_bm ?_
  | with_reducible refine x_par ?_
  | with_reducible refine x_ilist ?_
  | with_reducible refine x_itup ?_
  | with_reducible refine x_istr ?_
  | ((with_reducible show tLc _ _ _ _ _ _ _ _); unfold tLc)
  | ((with_reducible show tFor _ _ _ _ _ _); unfold tFor)
  | ((with_reducible refine' x_eq ?vv ?_); (case vv => exact rfl))
  | ((with_reducible refine' x_ne ?vv ?_); (case vv => exact rfl))
  | with_reducible refine x_rI0 ?_
  | with_reducible refine x_dgetR ?_
  | with_reducible refine x_dputR ?_
  | with_reducible refine x_dnew ?_
  | with_reducible refine x_dget1 ?_
  | with_reducible refine x_dget2 ?_
  | with_reducible refine x_sl ?_
  | with_reducible refine x_nopart ?_
  | with_reducible refine x_part ?_
  | ((with_reducible refine' x_slL ?vv ?_); (case vv => (with_reducible assumption)))
  | with_reducible refine x_disp ?_
  | with_reducible refine x_pcons ?_
  | with_reducible refine x_pnil ?_
  | ((with_reducible refine' x_mod ?vv ?_); (case vv => omega); intro r er hr0 hr1; (try clear er))
  | ((with_reducible refine' x_rI ?vv ?_); (case vv => walk_at "sc"))
  | (with_reducible refine Or.inl (Exists.intro _ (And.intro rfl ?_)))
  | with_reducible refine x_T ?_
  | with_reducible refine x_F ?_
  | ((with_reducible show Exists (α := V) _); (with_reducible apply Exists.intro))
  | ((with_reducible show Exists (α := Bool) _); (with_reducible apply Exists.intro))
  | ((with_reducible show Exists (α := Nat) _); (with_reducible apply Exists.intro))
  | ((with_reducible show Exists (α := Int) _); (with_reducible apply Exists.intro))
  | ((with_reducible show Exists (α := List V) _); (with_reducible apply Exists.intro))
  | ((with_reducible show Exists (α := PySem.Str) _); (with_reducible apply Exists.intro))
  | ((with_reducible show Exists (α := Option V) _); (with_reducible apply Exists.intro))
  | ((with_reducible show Exists (α := Option Int) _); (with_reducible apply Exists.intro))
  | ((with_reducible show Exists (α := List (Key × V)) _); (with_reducible apply Exists.intro))
  | refine And.intro rfl ?_
  | ((with_reducible refine And.intro ?vv ?_); (case vv => (first | (with_reducible assumption) | (show _ ≤ sizeLine; decide) | exact len_ok rfl)))
  | (refine And.intro (Exists.intro _ rfl) ?_))
local macro_rules | `(tactic| walk_at "sc") => `(tactic| first
  | (with_reducible assumption)
  | exact divW (by omega) (by omega)
  | exact mulW (by omega) (by omega)
  | exact Or.inl ⟨by omega, by omega⟩
  | exact Or.inr ⟨by omega, by omega⟩
  | (show (_ : Int) ≠ 0; omega)
  | exact ⟨by decide, by decide, by decide⟩
  | decide)
local macro_rules | `(tactic| walk_at "rd") => `(tactic| repeat walk_at "rd1")
namespace MP
open PySem L2 StX
section
variable {P : Program} {w : World} {K : PySem.W.Frag} {mg : Str → Option Value} {base : Heap} {ts : Nat → Tok} {CP CM : Addr}
abbrev s_step_lines : Stmt := topS 47
abbrev N_step_lines : List Str := ["program", "line", "kind", "behind", "other", "first"]
abbrev P_step_lines : List Str := ["program", "line"]
theorem sc_step_lines : FnScope N_step_lines P_step_lines (defScope s_step_lines) := ⟨rfl, rfl, rfl, by decide +kernel, rfl, by decide +kernel, by decide +kernel⟩
abbrev s_following_lines : Stmt := topS 48
abbrev N_following_lines : List Str := ["program", "line", "open_calls", "kind"]
abbrev P_following_lines : List Str := ["program", "line", "open_calls"]
theorem sc_following_lines : FnScope N_following_lines P_following_lines (defScope s_following_lines) := ⟨rfl, rfl, rfl, by decide +kernel, rfl, by decide +kernel, by decide +kernel⟩
structure LenTxt (mg : Str → Option Value) : Prop where
  b_len : mg "len" = none
def sp_step (CP : Addr) : Sp := fun vs H Q _ => ∃ (x : Addr) (ad : Nat → Addr) (mo pr bh fh : Addr) (R : RdM) (z : Str) (be : List (Int × Int)) (fi : List (Str × Int)) (l : Int) (xs : List Int), vs = [.ref x, .int l] ∧ ProgAt CP H x ad mo pr bh fh R z be fi ∧ stepL R be l = some xs ∧ Sm2 R ∧ ∀ t H', Same H H' → H' t = some (.tup (xs.map V.int)) → Q (.ref t) H'
theorem ok_step_lines {f : Addr} {fd : FuncData} (F : Fun K "step_lines" "step_lines" s_step_lines f fd) (T : ModeTxt P K mg CP CM) : FnOk P w K mg base CX0 1 f fd P_step_lines (sp_step CP) := by
  refine F.ok sc_step_lines (fun vs H Q E h => ?_) (fun cdv A outer s H vs Q E hr h => ?_)
  · obtain ⟨x, ad, mo, pr, bh, fh, R, z, be, fi, l, xs, rfl, _⟩ := h
    rfl
  · obtain ⟨x, ad, mo, pr, bh, fh, R, z, be, fi, l, xs, rfl, r, hs, hn, k⟩ := h
    have Tr := T.pg
    have hu := hu_of hr
    unfold stepL at hs
    obtain ⟨kd, hk, hs⟩ := Option.bind_eq_some_iff.mp hs
    refine ⟨_, (pss_cons (ps_set (i := 2) sc_step_lines.nd rfl (Or.inl rfl) (pe_dget hu (pe_fld (pv 0) rfl) (pv 1) (fun _ _ => rfl)))
      (pss_cons (ps_set (i := 3) sc_step_lines.nd rfl (Or.inl rfl) (pe_dget1 hu (pe_fld (pv 0) rfl) (pv 1) ⟨rfl, rfl, rfl, rfl⟩))
      (pss_cons (ps_if (pt_cmpR op_eq (pv 2) pe_str (nomark _)) (pss_one (ps_ret (pe_tup (pa_cons (pv 3) (pa_star (pe_lc (own := [("other", 4)]) (g := gName 4) (tt := tYes) rfl sc_step_lines.nd (pi_tup (pe_dget hu (pe_fld (pv 0) rfl) (pv 1) (fun _ _ => rfl))) (blkOk_by (own := [("other", 4)]) (N := N_step_lines) (sc := defScope s_step_lines) (by decide +kernel)) (fun _ _ _ _ _ => (pg_name (i := 4) sc_step_lines.nd rfl (Or.inl rfl))) (fun _ _ _ _ _ => pts_nil) (fun _ _ _ _ _ => (pe_dget hu (pe_fldK (rfl : _ = K) (pv 0) rfl) (pv 4) (fun _ _ => rfl)))) pa_nil))))) pss_nil)
      (pss_cons (ps_if (pt_cmpR op_eq (pv 2) pe_str (nomark _)) (pss_one (ps_ret (pe_tup (pa_cons (pe_dget hu (pe_fld (pv 0) rfl) (pe_dget hu (pe_fld (pv 0) rfl) (pe_dget hu (pe_fld (pv 0) rfl) (pv 1) (fun _ _ => rfl)) (fun _ _ => rfl)) (fun _ _ => rfl)) pa_nil)))) pss_nil)
      (pss_cons (ps_if (pt_cmpR op_eq (pv 2) pe_str (nomark _)) (pss_one (ps_ret (pe_tup (pa_cons (pv 3) (pa_cons (pe_dget hu (pe_fld (pv 0) rfl) (pe_dget hu (pe_fld (pv 0) rfl) (pv 1) (fun _ _ => rfl)) (fun _ _ => rfl)) pa_nil))))) pss_nil)
      (pss_cons (ps_if (pt_cmpR op_eq (pv 2) pe_str (nomark _)) (pss_one (ps_ret (pe_tup (pa_cons (pe_dget hu (pe_fld (pv 0) rfl) (pe_dget hu (pe_fld (pv 0) rfl) (pe_dget hu (pe_fld (pv 0) rfl) (pv 1) (fun _ _ => rfl)) (fun _ _ => rfl)) (fun _ _ => rfl)) pa_nil)))) pss_nil)
      (pss_cons (ps_if (PW.pt (pw_and (pt_cmpR op_eq (pv 2) pe_str (nomark _)) (pw_and1 (pt_cmp (pc_din hu (pv 1) (pe_fld (pv 0) rfl)))))) (pss_cons (ps_set (i := 5) sc_step_lines.nd rfl (Or.inl rfl) (pe_dget hu (pe_fld (pv 0) rfl) (pv 1) (fun _ _ => rfl)))
      (pss_cons (ps_if (pt_cmpR op_eq (pe_dget hu (pe_fld (pv 0) rfl) (pv 5) (fun _ _ => rfl)) pe_str (nomark _)) (pss_one (ps_ret (pe_tup (pa_cons (pe_dget hu (pe_fld (pv 0) rfl) (pv 5) (fun _ _ => rfl)) (pa_cons (pv 3) pa_nil))))) pss_nil)
      (pss_one (ps_ret (pe_ifExp (pt_cmpR op_eq (pe_dget hu (pe_fld (pv 0) rfl) (pv 5) (fun _ _ => rfl)) pe_str (nomark _)) (pe_tup (pa_cons (pe_dget hu (pe_fld (pv 0) rfl) (pv 5) (fun _ _ => rfl)) pa_nil)) (pe_tup (pa_cons (pv 3) pa_nil))))))) pss_nil)
      (pss_one (ps_ret (pe_ifExp (pt_cmpR op_in_seq (pv 2) (pe_tup (pa_cons pe_str (pa_cons pe_str pa_nil))) rfl) (pe_tup (pa_cons (pv 3) pa_nil)) (pe_tup pa_nil))))))))))), ?_⟩
    show tSeq _ _ _ [some (V.ref x), some (V.int l), none, none, none, none] H
    walk_at "rd"
    refine r_getI r.t3 hk ?_
    walk_at "rd"
    refine ⟨Or.inl ⟨_, .inl r.hbh⟩, ?_⟩
    walk_at "rd"
    refine ⟨dget_i r.hbh (valV_kI V.int l be), ?_⟩
    generalize hbv : ((look be l).map V.int).getD .non = bv
    have hb1 : ∀ b, look be l = some b → bv = .int b := fun b e => by rw [← hbv, e]; rfl
    clear hbv
    walk_at "rd"
    refine x_D (fun h1 => ?_) (fun h1 => ?_)
    · rw [if_pos (V.str.inj h1)] at hs
      obtain ⟨b, hb, hs⟩ := Option.bind_eq_some_iff.mp hs
      obtain ⟨y, hy, hs⟩ := Option.bind_eq_some_iff.mp hs
      obtain ⟨rr, hrr, rfl⟩ := Option.map_eq_some_iff.mp hs
      have hbv := hb1 b hb
      subst hbv
      obtain ⟨hrl, hra⟩ := mapM_at hrr
      have ht := (r.ne.os _ (look_mem hy)).1
      have hn := hn.o _ (look_mem hy)
      replace hn : y.2.length < 1000 := hn
      rw [← hrl] at hn
      walk_at "rd"
      refine x_star ?_
      walk_at "rd"
      refine r_getI r.t6 hy ?_
      walk_at "rd"
      refine ⟨⟨_, SqT.of ht⟩, fun D hD => ?_⟩
      refine lc_it (walk_tup (xs := y.2.map V.int)) (fun i H3 => Hold (H3 = upd H D (.lst ((rr.take i).map V.int)))) ⟨rfl⟩ (fun i H3 _ ⟨e⟩ => by rw [e]; exact SqT.of (upd_new ht hD)) ?_ ?_
      · rintro i v H3 H4 hi ⟨rfl⟩ ⟨rfl, hv⟩
        rw [List.getElem?_map] at hv
        obtain ⟨o, ho, rfl⟩ := Option.map_eq_some_iff.mp hv
        obtain ⟨c, hc, hco⟩ := hra i o ho
        have r3 := r.same (same_upd (o := .lst ((rr.take i).map V.int)) hD)
        walk_at "rd"
        unfold tYes
        refine x_T ?_
        walk_at "rd"
        refine r_getI r3.hbh hco ?_
        refine ⟨_, upd_same, ?_, ⟨?_⟩⟩
        · rw [List.length_map, List.length_take]
          have := big5
          omega
        · rw [upd_upd, List.take_add_one, hc, List.map_append]
          rfl
      · rintro H3 ⟨rfl⟩
        have e1 : rr.take (y.2.map V.int).length = rr := by rw [List.length_map, ← hrl, List.take_length]
        rw [e1]
        refine ⟨D, rr.map V.int, rfl, Or.inr (SqL.of upd_same), ?_⟩
        walk_at "rd"
        refine ⟨?_, fun t nt => ?_⟩
        · have := big5
          simp
          omega
        · exact k t _ ((same_upd hD).trans (same_upd nt)) (by rw [upd_same]; simp)
    rw [if_neg fun q => h1 (congrArg V.str q)] at hs
    walk_at "rd"
    refine x_D (fun h2 => ?_) (fun h2 => ?_)
    · rw [if_pos (V.str.inj h2)] at hs
      obtain ⟨p, hp, hs⟩ := Option.bind_eq_some_iff.mp hs
      obtain ⟨q, hq, hs⟩ := Option.bind_eq_some_iff.mp hs
      obtain ⟨c, hc, rfl⟩ := Option.map_eq_some_iff.mp hs
      walk_at "rd"
      refine r_getI r.t5 hp ?_
      refine r_getI r.t5 hq ?_
      refine r_getI r.hbh hc ?_
      walk_at "rd"
      intro t nt
      exact k t _ (same_upd nt) upd_same
    rw [if_neg fun q => h2 (congrArg V.str q)] at hs
    walk_at "rd"
    refine x_D (fun h3 => ?_) (fun h3 => ?_)
    · rw [if_pos (V.str.inj h3)] at hs
      obtain ⟨b, hb, hs⟩ := Option.bind_eq_some_iff.mp hs
      obtain ⟨p, hp, hs⟩ := Option.bind_eq_some_iff.mp hs
      obtain ⟨c, hc, rfl⟩ := Option.map_eq_some_iff.mp hs
      have hbv := hb1 b hb
      subst hbv
      walk_at "rd"
      refine r_getI r.t5 hp ?_
      refine r_getI r.hbh hc ?_
      walk_at "rd"
      intro t nt
      exact k t _ (same_upd nt) upd_same
    rw [if_neg fun q => h3 (congrArg V.str q)] at hs
    walk_at "rd"
    refine x_D (fun h4 => ?_) (fun h4 => ?_)
    · rw [if_pos (V.str.inj h4)] at hs
      obtain ⟨p, hp, hs⟩ := Option.bind_eq_some_iff.mp hs
      obtain ⟨q, hq, hs⟩ := Option.bind_eq_some_iff.mp hs
      obtain ⟨c, hc, rfl⟩ := Option.map_eq_some_iff.mp hs
      walk_at "rd"
      refine r_getI r.t8 hp ?_
      refine r_getI r.t5 hq ?_
      refine r_getI r.hbh hc ?_
      walk_at "rd"
      intro t nt
      exact k t _ (same_upd nt) upd_same
    rw [if_neg fun q => h4 (congrArg V.str q)] at hs
    walk_at "rd"
    refine x_D (fun h5 => ?_) (fun h5 => ?_)
    · walk_at "rd"
      refine r_dinI r.t5 ?_
      walk_at "rd"
      refine x_B (fun h6 => ?_) (fun h6 => ?_)
      · rw [if_pos ⟨V.str.inj h5, h6⟩] at hs
        obtain ⟨p, hp, hs⟩ := Option.bind_eq_some_iff.mp hs
        obtain ⟨fk, hfk, hs⟩ := Option.bind_eq_some_iff.mp hs
        walk_at "rd"
        refine r_getI r.t5 hp ?_
        walk_at "rd"
        refine r_getI r.t3 hfk ?_
        walk_at "rd"
        refine x_D (fun h7 => ?_) (fun h7 => ?_)
        · rw [if_pos (V.str.inj h7)] at hs
          obtain ⟨c, hc, hs⟩ := Option.bind_eq_some_iff.mp hs
          obtain ⟨b, hb, rfl⟩ := Option.map_eq_some_iff.mp hs
          have hbv := hb1 b hb
          subst hbv
          walk_at "rd"
          refine r_getI r.hbh hc ?_
          walk_at "rd"
          intro t nt
          exact k t _ (same_upd nt) upd_same
        rw [if_neg fun q => h7 (congrArg V.str q)] at hs
        walk_at "rd"
        refine r_getI r.t3 hfk ?_
        walk_at "rd"
        refine x_D (fun h8 => ?_) (fun h8 => ?_)
        · rw [if_pos (V.str.inj h8)] at hs
          obtain ⟨c, hc, rfl⟩ := Option.map_eq_some_iff.mp hs
          walk_at "rd"
          refine r_getI r.hbh hc ?_
          walk_at "rd"
          intro t nt
          exact k t _ (same_upd nt) upd_same
        · rw [if_neg fun q => h8 (congrArg V.str q)] at hs
          obtain ⟨b, hb, rfl⟩ := Option.map_eq_some_iff.mp hs
          have hbv := hb1 b hb
          subst hbv
          walk_at "rd"
          intro t nt
          exact k t _ (same_upd nt) upd_same
      rw [if_neg fun q => by rw [q.2] at h6; cases h6] at hs
      walk_at "rd"
      intro t nt
      have s1 := same_upd (o := .tup ((["do", "ever"] : List Str).map V.str)) nt
      refine x_inT (xs := (["do", "ever"] : List Str).map V.str) (SqT.of upd_same) rfl rfl ?_
      rw [inV_strs]
      walk_at "rd"
      refine x_D (fun h9 => ?_) (fun h9 => ?_)
      · rw [if_pos h9] at hs
        obtain ⟨b, hb, rfl⟩ := Option.map_eq_some_iff.mp hs
        have hbv := hb1 b hb
        subst hbv
        walk_at "rd"
        intro t2 nt2
        exact k t2 _ (s1.trans (same_upd nt2)) upd_same
      · rw [if_neg h9] at hs
        cases hs
        walk_at "rd"
        intro t2 nt2
        exact k t2 _ (s1.trans (same_upd nt2)) upd_same
    rw [if_neg fun q => h5 (congrArg V.str q.1)] at hs
    walk_at "rd"
    intro t nt
    have s1 := same_upd (o := .tup ((["do", "ever"] : List Str).map V.str)) nt
    refine x_inT (xs := (["do", "ever"] : List Str).map V.str) (SqT.of upd_same) rfl rfl ?_
    rw [inV_strs]
    walk_at "rd"
    refine x_D (fun h9 => ?_) (fun h9 => ?_)
    · rw [if_pos h9] at hs
      obtain ⟨b, hb, rfl⟩ := Option.map_eq_some_iff.mp hs
      have hbv := hb1 b hb
      subst hbv
      walk_at "rd"
      intro t2 nt2
      exact k t2 _ (s1.trans (same_upd nt2)) upd_same
    · rw [if_neg h9] at hs
      cases hs
      walk_at "rd"
      intro t2 nt2
      exact k t2 _ (s1.trans (same_upd nt2)) upd_same
def sp_foll (K : PySem.W.Frag) (CP : Addr) : Sp := fun vs H Q _ => ∃ (x : Addr) (ad : Nat → Addr) (mo pr bh fh : Addr) (R : RdM) (z : Str) (be : List (Int × Int)) (fi : List (Str × Int)) (l : Int) (o : Addr) (op xs : List Int), vs = [.ref x, .int l, .ref o] ∧ ProgAt CP H x ad mo pr bh fh R z be fi ∧ (SqL K H o (op.map V.int) ∨ SqT K H o (op.map V.int)) ∧ follL R be fi l op = some xs ∧ Sm2 R ∧ ∀ t H', Same H H' → H' t = some (.tup (xs.map V.int)) → Q (.ref t) H'
theorem ok_following_lines {f : Addr} {fd : FuncData} (F : Fun K "following_lines" "following_lines" s_following_lines f fd) (T : ModeTxt P K mg CP CM) (b_len : mg "len" = none) (c_step_lines : Cal P w K mg base 1 "step_lines" (sp_step CP)) : FnOk P w K mg base (L2.CX P w) 2 f fd P_following_lines (sp_foll K CP) := by
  refine F.okX sc_following_lines (fun vs H Q E h => ?_) (fun cdv A outer s H vs Q E hr h => ?_)
  · obtain ⟨x, ad, mo, pr, bh, fh, R, z, be, fi, l, o, op, xs, rfl, _⟩ := h
    rfl
  · obtain ⟨x, ad, mo, pr, bh, fh, R, z, be, fi, l, o, op, xs, rfl, r, ho, hs, hn, k⟩ := h
    have Tr := T.pg
    have hu := hu_of hr
    unfold follL at hs
    obtain ⟨kd, hk, hs⟩ := Option.bind_eq_some_iff.mp hs
    have T : LenTxt mg := ⟨b_len⟩
    refine ⟨_, (pss_cons (ps_set (i := 3) sc_following_lines.nd rfl (Or.inl rfl) (pe_dget hu (pe_fld (pv 0) rfl) (pv 1) (fun _ _ => rfl)))
      (pss_cons (ps_if (pt_cmpR op_eq (pv 3) pe_str (nomark _)) (pss_one (ps_ret (pe_tup (pa_cons (pe_dget hu (pe_fld (pv 0) rfl) (pe_dget hu (pe_fld (pv 0) rfl) (pv 1) (fun _ _ => rfl)) (fun _ _ => rfl)) pa_nil)))) pss_nil)
      (pss_cons (ps_if (pt_cmpR op_eq (pv 3) pe_str (nomark _)) (pss_one (ps_ret (pe_tup pa_nil))) pss_nil)
      (pss_cons (ps_if (PW.pt (pw_or (pt_cmpR op_eq (pv 3) pe_str (nomark _)) (pw_or1 (PW.pt (pw_and (pt_cmpR op_eq (pv 3) pe_str (nomark _)) (pw_and1 (pt_cmp (pc_dnotin hu (pv 1) (pe_fld (pv 0) rfl))))))))) (pss_one (ps_ret (pe_ifExp (pt_cmpR op_gt (pe_callB call_len_seq (by rfl) T.b_len (by decide +kernel) (pa_cons (pv 2) pa_nil)) pe_int (nomark _)) (pe_tup (pa_cons (pe_dget hu (pe_fld (pv 0) rfl) (pe_ix ix_seq (pv 2) pe_neg1 (fun _ _ => rfl)) (fun _ _ => rfl)) pa_nil)) (pe_tup pa_nil)))) pss_nil)
      (pss_one (ps_ret (pe_cc c_step_lines hr (by decide) rfl (pa_cons (pv 0) (pa_cons (pv 1) pa_nil))))))))), ?_⟩
    show tSeq _ _ _ [some (V.ref x), some (V.int l), some (V.ref o), none] H
    walk_at "rd"
    refine r_getI r.t3 hk ?_
    walk_at "rd"
    refine x_D (fun h1 => ?_) (fun h1 => ?_)
    · rw [if_pos (V.str.inj h1)] at hs
      obtain ⟨n, hcn, hs⟩ := Option.bind_eq_some_iff.mp hs
      obtain ⟨c, hc, rfl⟩ := Option.map_eq_some_iff.mp hs
      walk_at "rd"
      refine r_getI r.t7 hcn ?_
      refine r_getS r.hfh hc ?_
      walk_at "rd"
      intro t nt
      exact k t _ (same_upd nt) upd_same
    rw [if_neg fun q => h1 (congrArg V.str q)] at hs
    walk_at "rd"
    refine x_D (fun h2 => ?_) (fun h2 => ?_)
    · rw [if_pos (V.str.inj h2)] at hs
      cases hs
      walk_at "rd"
      intro t nt
      exact k t _ (same_upd nt) upd_same
    rw [if_neg fun q => h2 (congrArg V.str q)] at hs
    walk_at "rd"
    refine x_D (fun h3 => ?_) (fun h3 => ?_)
    · have hib : isBack R kd l = true := by unfold isBack; rw [decide_eq_true (V.str.inj h3)]; rfl
      rw [if_pos hib] at hs
      walk_at "rd"
      refine ⟨ho, ?_⟩
      walk_at "rd"
      rw [List.length_map]
      refine x_D (fun h7 => ?_) (fun h7 => ?_)
      · cases hla : op.getLast? with
        | none =>
          rw [List.getLast?_eq_none_iff] at hla
          rw [hla] at h7
          exact absurd h7 (by decide)
        | some c =>
          rw [hla] at hs
          obtain ⟨b, hb, rfl⟩ := Option.map_eq_some_iff.mp hs
          have hat : atI (op.map V.int) (-1) = some (.int c) := at_last (by rw [List.getLast?_map, hla]; rfl)
          have hix : ∀ Q : VK, Q (.int c) H → rIx K (.ref o) (.int (-1)) H Q := fun Q q => ho.elim (fun h => x_ixSeqL h hat q) (fun h => x_ixSeqT h hat q)
          walk_at "rd"
          refine hix _ ?_
          refine r_getI r.hbh hb ?_
          walk_at "rd"
          intro t nt
          exact k t _ (same_upd nt) upd_same
      · have hla : op.getLast? = none := by rw [List.getLast?_eq_none_iff]; exact List.eq_nil_of_length_eq_zero (by omega)
        rw [hla] at hs
        cases hs
        walk_at "rd"
        intro t nt
        exact k t _ (same_upd nt) upd_same
    have h3' : ¬ kd = ("back" : Str) := fun q => h3 (congrArg V.str q)
    walk_at "rd"
    refine x_D (fun h4 => ?_) (fun h4 => ?_)
    · walk_at "rd"
      refine r_dninI r.t5 ?_
      walk_at "rd"
      refine x_NB (fun h5 => ?_) (fun h5 => ?_)
      · have hib : isBack R kd l = true := by unfold isBack; rw [decide_eq_true (V.str.inj h4), h5, Bool.or_eq_true]; exact .inr rfl
        rw [if_pos hib] at hs
        walk_at "rd"
        refine ⟨ho, ?_⟩
        walk_at "rd"
        rw [List.length_map]
        refine x_D (fun h7 => ?_) (fun h7 => ?_)
        · cases hla : op.getLast? with
          | none =>
            rw [List.getLast?_eq_none_iff] at hla
            rw [hla] at h7
            exact absurd h7 (by decide)
          | some c =>
            rw [hla] at hs
            obtain ⟨b, hb, rfl⟩ := Option.map_eq_some_iff.mp hs
            have hat : atI (op.map V.int) (-1) = some (.int c) := at_last (by rw [List.getLast?_map, hla]; rfl)
            have hix : ∀ Q : VK, Q (.int c) H → rIx K (.ref o) (.int (-1)) H Q := fun Q q => ho.elim (fun h => x_ixSeqL h hat q) (fun h => x_ixSeqT h hat q)
            walk_at "rd"
            refine hix _ ?_
            refine r_getI r.hbh hb ?_
            walk_at "rd"
            intro t nt
            exact k t _ (same_upd nt) upd_same
        · have hla : op.getLast? = none := by rw [List.getLast?_eq_none_iff]; exact List.eq_nil_of_length_eq_zero (by omega)
          rw [hla] at hs
          cases hs
          walk_at "rd"
          intro t nt
          exact k t _ (same_upd nt) upd_same
      · have hib : isBack R kd l = false := by unfold isBack; rw [decide_eq_false h3', h5, Bool.not_true, Bool.and_false]; rfl
        rw [if_neg (by rw [hib]; decide)] at hs
        walk_at "rd"
        exact ⟨x, ad, mo, pr, bh, fh, R, z, be, fi, l, xs, rfl, r, hs, hn, k⟩
    · have hib : isBack R kd l = false := by unfold isBack; rw [decide_eq_false h3', decide_eq_false fun q => h4 (congrArg V.str q)]; rfl
      rw [if_neg (by rw [hib]; decide)] at hs
      walk_at "rd"
      exact ⟨x, ad, mo, pr, bh, fh, R, z, be, fi, l, xs, rfl, r, hs, hn, k⟩
end
end MP
end
section
namespace MP
open PySem PySem.Spec PyProof.Rows L2
/-! ### enumerate(tuple) -/
theorem enum_meets0 {v : Value} {o : Obj} {Hb : Heap → Prop} (B : Begins v o Hb) :
    Meets (Builtin.«enumerate.__new__» ⟨[.type "enumerate", v], []⟩) (fun _ R s => Hb s.heap ∧ R (.ok (.ret (.ref (s.heap.push o).objs.size)))
      { s with heap := (s.heap.push o).push { cls := .type "enumerate", data := .fields #[.none, .bool false, .ref s.heap.objs.size, rawInt 0, .none, .none] } }) :=
  .of_wp fun prog w A R s hh => by
    obtain ⟨hp, gl, dd, tk, os⟩ := s
    obtain ⟨hb, hh⟩ := hh
    have sub1 := sub_enumerate
    have it1 : ∀ {A' : Around} {E : Value → Shared → Prop} {Q : Value → Shared → Prop}, Q (.ref hp.objs.size) ⟨hp.push o, gl, dd, tk, os⟩ → wpAny (model prog w) A' (pyIter v) Q E ⟨hp, gl, dd, tk, os⟩ :=
      fun q => B.iter prog w _ _ ⟨hp, gl, dd, tk, os⟩ _ hb q
    wp_walk using it1
    refine wpAny_stack_any fun st => wpAny_pure ?_
    split
    · rename_i c _ _ _ _ _
      cases (c == Value.type "enumerate") <;> (wp_walk using it1; exact ⟨_, rfl, hh⟩)
    · wp_walk using it1
      exact ⟨_, rfl, hh⟩
theorem enum_call0 {prog : Program} {w : World} {A : Around} {E : Value → Shared → Prop} {s : Shared} {v : Value} {o : Obj} {Hb : Heap → Prop} {Q : Value → Shared → Prop} (B : Begins v o Hb) (h1 : Hb s.heap)
    (h : ∀ h', IsEnum h' (s.heap.objs.size + 1) s.heap.objs.size 0 .none → h'.get? s.heap.objs.size = some o → (∀ b ob, s.heap.get? b = some ob → h'.get? b = some ob) → Q (.ref (s.heap.objs.size + 1)) { s with heap := h' }) :
    wpAny (model prog w) A (call (.type "enumerate") [v]) Q E s := by
  refine callType_new F.called_enumerate (by decide) (F.typeCall_enumerate_1 _) (F.newCall_enumerate_1 _) (fun obj => F.args_object_init_2 obj _) F.entry_enumerate_new (enum_meets0 B) ⟨h1, ?_⟩
  have hz : (s.heap.push o).objs.size = s.heap.objs.size + 1 := Heap.size_push ..
  show _ ∧ _
  rw [hz]
  have he := Heap.get?_push_size (s.heap.push o) (o := { cls := .type "enumerate", data := .fields #[.none, .bool false, .ref s.heap.objs.size, rawInt 0, .none, .none] }) rfl
  rw [hz] at he
  exact ⟨⟨_, he, rfl⟩, h _ he (Heap.get?_push_of_some _ (Heap.get?_push_size _ B.free)) fun b ob x => Heap.get?_push_of_some _ (Heap.get?_push_of_some _ x)⟩
theorem draws_stopT {prog : Program} {w : World} {A : Around} (hh : A.handled = none) {it l : Addr} {i : Nat} {items : Array Value} (hx : items[i]? = none) :
    Draws prog w A it [it, l] i (fun _ _ => False) (fun j h => j = i ∧ h.IsTupleIter it l i ∧ h.IsTuple l items) where
  live := fun _ _ st => let ⟨o, ho, _⟩ := st.2.1; ⟨o, ho⟩
  frame := fun _ _ _ st hk => ⟨st.1, st.2.1.at fun o e => hk it (by simp) o e, st.2.2.at fun o e => hk l (by simp) o e⟩
  item := fun j s Q E hi st _ => absurd st.1 (Nat.ne_of_lt hi)
  done := fun s Q E st hE => wpAny_nextOf_tuple_end hh st.2.1 st.2.2 hx hE
def IteT (K : PySem.W.Frag) (a : Addr) : It :=
  ⟨fun i H => ∃ (xs : List V) (x : V), SqT K H a xs ∧ xs[i]? = some x, fun i H v H' => ∃ T x, v = .ref T ∧ H T = none ∧ H' = upd H T (.tup [.int (i : Nat), x]) ∧ ∀ xs, SqT K H a xs → xs[i]? = some x, fun i H => ∃ xs : List V, SqT K H a xs ∧ xs.length ≤ i⟩
theorem turn_enumT {P : Program} {w : World} {K : PySem.W.Frag} {elts : List Expr} {kk : Nat} {tpos : Pos} (a e it : Addr) :
    Turn P w K (.Tuple elts kk tpos) (IteT K a) [e, it] e (fun i h => (∃ old, IsEnum h e it (i : Nat) old) ∧ h.IsTupleIter it a i ∧ e ≠ it) where
  mem := by simp
  obj := fun i h st b hb => by
    obtain ⟨⟨old, he⟩, ⟨o, ho, hc, hd⟩, _⟩ := st
    rcases (show b = e ∨ b = it by simpa using hb) with z | z
    · subst z; exact ⟨_, he, fun v q => nomatch q⟩
    · subst z; exact ⟨o, ho, fun v q => by rw [hd] at q; cases q⟩
  keep := fun i h h' st k => let ⟨⟨old, he⟩, hi, hne⟩ := st; ⟨⟨old, k e (by simp) _ he⟩, hi.at fun o q => k it (by simp) o q, hne⟩
  item := by
    intro X hP hw hK hc i pins s σ H E I hf st hg
    subst hP hw hK
    obtain ⟨⟨old, he⟩, hit, hne⟩ := st
    obtain ⟨xs, x, hq, hx⟩ := hg
    obtain ⟨its, rv, p, hz⟩ := I.tuple hq
    obtain ⟨u, hu, ru⟩ := rv.get hx
    have hel : e < s.heap.objs.size := Heap.lt_size he
    have hil : it < s.heap.objs.size := let ⟨_, q, _⟩ := hit; Heap.lt_size q
    have hal : a ≠ it := by
      intro z
      obtain ⟨o1, q1, c1, d1⟩ := hit
      obtain ⟨o2, q2, c2, d2⟩ := p
      rw [← z, q2] at q1
      cases q1
      rw [c2] at c1
      exact absurd c1 (by decide)
    have hea : e ∉ [it, a] := by
      intro z
      rcases (show e = it ∨ e = a by simpa using z) with z | z
      · exact hne z
      · obtain ⟨o2, q2, c2, d2⟩ := p
        rw [← z, he] at q2
        cases q2
        exact absurd (show Value.type "enumerate" = Value.type "tuple" from c2) (by decide)
    have hiz : i < its.toArray.size := by
      have := (List.getElem?_eq_some_iff.mp hu).1
      rwa [List.size_toArray]
    refine wpAny_pyNext_enum_itemC (Draws.tuple (A := X.A.in1) (I.ok.hd hc) it a hal its.toArray) he ⟨hit, p⟩ hiz hne hea fun y h' tk hy ho hit' hT hsz hk => ?_
    have hyu : u = y := by
      have q : its.toArray[i]? = some y := hy
      rw [show its.toArray[i]? = its[i]? by simp, hu] at q
      exact Option.some.inj q
    subst hyu
    refine ⟨_, rfl, wpAny_letOwnedTupleGo_enum (s := { s with heap := h', toks := tk + 1 }) ho fun h2 he2 sb => ?_⟩
    have hT2 : h2.get? s.heap.objs.size = some { cls := .type "tuple", data := .seq #[.int (i : Nat) tk, u] } := (sb.2 _ (Nat.ne_of_gt hel)).trans hT
    have new : ObjOk X.prog X.w (upd H s.heap.objs.size (.tup [.int (i : Nat), x])) h2 s.heap.objs.size (.tup [.int (i : Nat), x]) :=
      ⟨(by decide : 2 ≤ sizeLine), [.int (i : Nat) tk, u], .cons ⟨_, rfl⟩ (.cons ru .nil), ⟨_, hT2, rfl, _, rfl⟩⟩
    have I1 : Inv X pins σ (upd H s.heap.objs.size (.tup [.int (i : Nat), x])) { s with heap := h2, toks := tk + 1 } :=
      I.turnedNew (ch := [e, it]) (fun b ob hb q => (sb.2 b (fun z => hb (by simp [z]))).trans (hk b ob (fun z => hb (by simp [z])) (fun z => hb (by simp [z])) q)) hf (Nat.le_refl _) new
    refine ⟨.ref s.heap.objs.size, _, I1, rfl, ⟨_, x, rfl, I.hok.fresh (Nat.le_refl _), rfl, fun ys hy => by rw [I.tuple_inj hy hq]; exact hx⟩, ⟨⟨u, ?_⟩, hit'.1.at fun o q => (sb.2 it (Ne.symm hne)).trans q, hne⟩, fun b hb => ?_⟩
    · rw [show ((i + 1 : Nat) : Int) = (i : Int) + 1 by omega]
      exact he2
    · have hlt : b < s.heap.objs.size := (show b = e ∨ b = it by simpa using hb).elim (fun z => z ▸ hel) (fun z => z ▸ hil)
      rw [upd_ne (Nat.ne_of_lt hlt)]
      exact (hf b hb).1
  done := by
    intro X hP hw hK hc i pins s σ H E I hf st hg
    subst hP hw hK
    obtain ⟨⟨old, he⟩, hit, hne⟩ := st
    obtain ⟨xs, hq, hx⟩ := hg
    obtain ⟨its, rv, p, hz⟩ := I.tuple hq
    obtain ⟨f0, f1, f2, f3, f4, f5⟩ := hf it (by simp)
    have hl := rv.length
    have D := draws_stopT (prog := X.prog) (w := X.w) (A := X.A.in1) (I.ok.hd hc) (it := it) (l := a) (i := i) (items := its.toArray) (by rw [Array.getElem?_eq_none_iff, List.size_toArray]; omega)
    have st : i = i ∧ s.heap.IsTupleIter it a i ∧ s.heap.IsTuple a its.toArray := ⟨rfl, hit, p⟩
    exact wpAny_pyNext_enum_endD D he st fun h' eb => ⟨rfl, I.turned (t' := s.toks) (fun b o hb q => eb b o hb q) f0 f1 f3 f4 f5⟩
  self := fun A i s Q E st h => let ⟨⟨_, he⟩, _⟩ := st; wpAny_pyIter_enum he h
def iEnumT (K : PySem.W.Frag) (ta : TA) : TI := fun σ H R => ta σ H fun vs H1 => ∃ a xs, vs = [.ref a] ∧ SqT K H1 a xs ∧ R (IteT K a) H1
theorem pi_enumT {X : Cx} {e : Expr} {ta : TA} {p pos tpos : Pos} {elts : List Expr} {kk : Nat} (hg : Gl X "enumerate") (hm : X.mg "enumerate" = none) (ha : PA X [e] ta) (hs : starEach [e] X.env = [(false, eval e X.env)] := by rfl) :
    PI X (.Tuple elts kk tpos) (.Call (.Name "enumerate" p) [e] [] pos) (iEnumT X.K ta) := by
  refine ⟨fun pins s σ H R I h => Call_ (ld_blt I hg hm boot_enumerate (PyProof.Rows.callWith_type1 (thn (ha.run pos pins s σ H _ I h) fun us s1 ⟨vs, H1, I1, r1, a, xs, ex, hq, q⟩ => ?_) hs rfl))⟩
  subst ex
  cases r1 with
  | cons r rr =>
    cases rr
    cases r
    obtain ⟨its, rv, p', hz⟩ := I1.tuple hq
    refine enum_call0 (begins_tuple a its.toArray) p' fun h' he hit hk => wpAny_pyIter_enum he ?_
    have I2 : Inv X pins σ H1 { s1 with heap := h' } := I1.kept (t' := s1.toks) hk
    refine ⟨s1.heap.objs.size + 1, [s1.heap.objs.size + 1, s1.heap.objs.size], _, _, H1, rfl, I2, turn_enumT a (s1.heap.objs.size + 1) s1.heap.objs.size, ⟨⟨.none, he⟩, ⟨_, hit, rfl, rfl⟩, Nat.succ_ne_self _⟩, fun b hb => ?_, q⟩
    have hle : s1.heap.objs.size ≤ b := (show b = s1.heap.objs.size + 1 ∨ b = s1.heap.objs.size by simpa using hb).elim (fun z => z ▸ Nat.le_add_right _ _) (fun z => z ▸ Nat.le_refl _)
    exact I1.fpOk hle (I1.hok.fresh hle)
theorem walk_enumT {K : PySem.W.Frag} {a : Addr} {xs : List V} : Walk (IteT K a) xs.length (fun H => SqT K H a xs) (YPair (fun i => some (.int (i : Nat))) (fun i => xs[i]?)) := by
  refine ⟨fun i _ hi q => ⟨xs, xs[i], q, by simp [hi]⟩, fun _ q => ⟨xs, q, Nat.le_refl _⟩, fun i H v H' _ q y => ?_⟩
  obtain ⟨T, x, h1, h2, h3, h4⟩ := y
  exact ⟨T, .int (i : Nat), x, h1, h2, h3, rfl, h4 xs q⟩
theorem x_ienumT {K : PySem.W.Frag} {te : TE} {σ : L2.St} {H : Hp} {R : It → Hp → Prop} (h : tCons te tNil σ H fun vs H1 => ∃ (a : Addr) (xs : List V), vs = [V.ref a] ∧ SqT K H1 a xs ∧ R (IteT K a) H1) : iEnumT K (tCons te tNil) σ H R := h
end MP
end
section
open PySem L2 MPX MP
local macro_rules | `(tactic| walk_at "rd1") => `(tactic| first
  | with_reducible refine x_seq ?_
  | with_reducible refine x_next ?_
  | with_reducible refine x_ret ?_
  | with_reducible refine x_retN ?_
  | with_reducible refine x_ifs ?_
  | with_reducible refine x_asg ?_
  | with_reducible refine x_drop ?_
  | with_reducible refine x_name ?_
  | ((with_reducible refine' x_var ?vv ?_); (case vv => exact rfl))
  | with_reducible refine x_c ?_
  | with_reducible refine x_op ?_
  | with_reducible refine x_un ?_
  | with_reducible refine x_test ?_
  | with_reducible refine x_tB ?_
  | with_reducible refine x_and ?_
  | with_reducible refine x_or ?_
  | with_reducible refine x_not ?_
  | with_reducible refine x_andV ?_
  | with_reducible refine x_orV ?_
  | with_reducible refine x_notV ?_
  | with_reducible refine x_if ?_
  | with_reducible refine x_nil ?_
  | with_reducible refine x_cons ?_
  | with_reducible refine x_tup ?_
  | with_reducible refine x_lst ?_
  | with_reducible refine x_cb ?_
  | with_reducible refine x_call ?_
  | with_reducible refine x_callS ?_
  | with_reducible refine x_callP ?_
  | with_reducible refine x_mk0 ?_
  | with_reducible refine x_mk1 ?_
  | with_reducible refine x_mk2 ?_
  | with_reducible refine x_make ?_
  | with_reducible refine x_sfld ?_
  | with_reducible refine x_din ?_
  | with_reducible refine x_dnin ?_
  | with_reducible refine x_fldS ?_
  | with_reducible refine x_sl3 ?_
  | ((with_reducible refine' r_pg ?vr ?vt ?vm ?vl ?vq); (case vr => (with_reducible assumption)); (case vt => assumption); (case vm => decide +kernel); (case vl => exact rfl))
  | with_reducible refine x_m0 ?_
  | with_reducible refine x_m1 ?_
  | with_reducible refine x_bm0 ?_
  | with_reducible refine x_bm ?_
  | with_reducible refine x_par ?_
  | with_reducible refine x_ilist ?_
  | with_reducible refine x_itup ?_
  | with_reducible refine x_istr ?_
  | ((with_reducible show tLc _ _ _ _ _ _ _ _); unfold tLc)
  | ((with_reducible show tFor _ _ _ _ _ _); unfold tFor)
  | ((with_reducible refine' x_eq ?vv ?_); (case vv => exact rfl))
  | ((with_reducible refine' x_ne ?vv ?_); (case vv => exact rfl))
  | with_reducible refine x_rI0 ?_
  | with_reducible refine x_dgetR ?_
  | with_reducible refine x_dputR ?_
  | with_reducible refine x_dnew ?_
  | with_reducible refine x_dget1 ?_
  | with_reducible refine x_dget2 ?_
  | with_reducible refine x_sl ?_
  | with_reducible refine x_nopart ?_
  | with_reducible refine x_part ?_
  | ((with_reducible refine' x_slL ?vv ?_); (case vv => (with_reducible assumption)))
  | with_reducible refine x_disp ?_
  | with_reducible refine x_pcons ?_
  | with_reducible refine x_pnil ?_
  | ((with_reducible refine' x_mod ?vv ?_); (case vv => omega); intro r er hr0 hr1; (try clear er))
  | ((with_reducible refine' x_rI ?vv ?_); (case vv => walk_at "sc"))
  | (with_reducible refine Or.inl (Exists.intro _ (And.intro rfl ?_)))
  | with_reducible refine x_T ?_
  | with_reducible refine x_F ?_
  | ((with_reducible show Exists (α := V) _); (with_reducible apply Exists.intro))
  | ((with_reducible show Exists (α := Bool) _); (with_reducible apply Exists.intro))
  | ((with_reducible show Exists (α := Nat) _); (with_reducible apply Exists.intro))
  | ((with_reducible show Exists (α := Int) _); (with_reducible apply Exists.intro))
  | ((with_reducible show Exists (α := List V) _); (with_reducible apply Exists.intro))
  | ((with_reducible show Exists (α := PySem.Str) _); (with_reducible apply Exists.intro))
  | ((with_reducible show Exists (α := Option V) _); (with_reducible apply Exists.intro))
  | ((with_reducible show Exists (α := Option Int) _); (with_reducible apply Exists.intro))
  | ((with_reducible show Exists (α := List (Key × V)) _); (with_reducible apply Exists.intro))
  | refine And.intro rfl ?_
  | ((with_reducible refine And.intro ?vv ?_); (case vv => (first | (with_reducible assumption) | (show _ ≤ sizeLine; decide) | exact len_ok rfl)))
  | (refine And.intro (Exists.intro _ rfl) ?_))
local macro_rules | `(tactic| walk_at "sc") => `(tactic| first
  | (with_reducible assumption)
  | exact divW (by omega) (by omega)
  | exact mulW (by omega) (by omega)
  | exact Or.inl ⟨by omega, by omega⟩
  | exact Or.inr ⟨by omega, by omega⟩
  | (show (_ : Int) ≠ 0; omega)
  | exact ⟨by decide, by decide, by decide⟩
  | decide)
local macro_rules | `(tactic| walk_at "rd") => `(tactic| repeat walk_at "rd1")
namespace MP
open PySem L2 StX
section
variable {P : Program} {w : World} {K : PySem.W.Frag} {mg : Str → Option Value} {base : Heap} {ts : Nat → Tok} {CP CM CN : Addr}
abbrev s_walked_calls : Stmt := topS 49
abbrev N_walked_calls : List Str := ["program", "lines", "open_calls", "allowed", "index", "line", "before", "kind"]
abbrev P_walked_calls : List Str := ["program", "lines"]
theorem sc_walked_calls : FnScope N_walked_calls P_walked_calls (defScope s_walked_calls) := ⟨rfl, rfl, rfl, by decide +kernel, rfl, by decide +kernel, by decide +kernel⟩
structure RunTxt (P : Program) (K : PySem.W.Frag) (mg : Str → Option Value) (CP CM CN : Addr) : Prop extends TupTxt P K mg CP CM where
  b_len : mg "len" = none
  b_enumerate : mg "enumerate" = none
  e_NotRun : Exc1 P K mg "NotRun" CN "index"
def sp_walked (K : PySem.W.Frag) (CP CN : Addr) : Sp := fun vs H Q E => ∃ (x : Addr) (ad : Nat → Addr) (mo pr bh fh : Addr) (R : RdM) (z : Str) (be : List (Int × Int)) (fi : List (Str × Int)) (t : Addr) (ls : List Int) (res : Nat ⊕ List Int), vs = [.ref x, .ref t] ∧ ProgAt CP H x ad mo pr bh fh R z be fi ∧ SqT K H t (ls.map V.int) ∧ ls.length < 100000 ∧ Sm2 R ∧ walkedL R be fi ls = some res ∧
  (∀ i, res = .inl i → ErrD CN "index" (.int i) H E) ∧ (∀ op, res = .inr op → ∀ o H', Same H H' → H' o = some (.tup (op.map V.int)) → Q (.ref o) H')
theorem ok_walked_calls {f : Addr} {fd : FuncData} (F : Fun K "walked_calls" "walked_calls" s_walked_calls f fd) (T : RunTxt P K mg CP CM CN) (c_following_lines : Cal P w K mg base 2 "following_lines" (sp_foll K CP)) : FnOk P w K mg base (L2.CX P w) 3 f fd P_walked_calls (sp_walked K CP CN) := by
  refine F.okX sc_walked_calls (fun vs H Q E h => ?_) (fun cdv A outer s H vs Q E hr h => ?_)
  · obtain ⟨x, ad, mo, pr, bh, fh, R, z, be, fi, t, ls, res, rfl, _⟩ := h
    rfl
  · obtain ⟨x, ad, mo, pr, bh, fh, R, z, be, fi, t, ls, res, rfl, r, ht, hl, sm2, hw, kE, kQ⟩ := h
    have Tr := T.pg
    have hu := hu_of hr
    unfold walkedL at hw
    obtain ⟨fm, hfm, hw⟩ := Option.bind_eq_some_iff.mp hw
    refine ⟨_, (pss_cons (ps_set (i := 2) sc_walked_calls.nd rfl (Or.inl rfl) (pe_lst pa_nil))
      (pss_cons (ps_set (i := 3) sc_walked_calls.nd rfl (Or.inl rfl) (pe_tup (pa_cons (pe_dget hu (pe_fld (pv 0) rfl) pe_str (fun _ _ => rfl)) pa_nil)))
      (pss_cons (ps_for (passes_of rfl) rfl (pi_enumT (by rfl) T.b_enumerate (pa_cons (pv 1) pa_nil)) (pg_tup rfl (pgs_cons (pg_name (i := 4) sc_walked_calls.nd rfl (Or.inl rfl)) (pgs_cons (pg_name (i := 5) sc_walked_calls.nd rfl (Or.inl rfl)) pgs_nil)))
      (pss_cons (ps_if (pt_cmpR op_notIn_seq (pv 5) (pv 3) rfl) (pss_one (ps_raise rfl (takes_of rfl rfl rfl rfl) (pmk_x1 T.e_NotRun hr (pa_cons (pv 4) pa_nil) rfl))) pss_nil)
      (pss_word (ps_if (pt_cmpR op_gt (pv 4) pe_int (nomark _)) (pss_cons (ps_set (i := 6) sc_walked_calls.nd rfl (Or.inl rfl) (pe_ix ix_tup (pv 1) (pe_op op_sub (pv 4) pe_int) (fun _ _ => rfl)))
        (pss_cons (ps_set (i := 7) sc_walked_calls.nd rfl (Or.inl rfl) (pe_dget hu (pe_fld (pv 0) rfl) (pv 6) (fun _ _ => rfl)))
        (pss_one (ps_if (pt_cmpR op_eq (pv 7) pe_str (nomark _)) (pss_one (ps_expr (pe_bm PySem.F.plainAttrs_list PySem.F.slot_list_append PySem.F.type_list_append mt_append (pv 2) (pa_cons (pv 6) pa_nil)))) (pss_one (ps_if (PW.pt (pw_or (pt_cmpR op_eq (pv 7) pe_str (nomark _)) (pw_or1 (PW.pt (pw_and (pt_cmpR op_eq (pv 7) pe_str (nomark _)) (pw_and1 (pt_cmp (pc_dnotin hu (pv 6) (pe_fld (pv 0) rfl))))))))) (pss_one (ps_expr (pe_bm0 PySem.F.plainAttrs_list PySem.F.slot_list_pop PySem.F.type_list_pop mt_pop (pv 2)))) pss_nil)))))) pss_nil)
      (pss_one (ps_set (i := 3) sc_walked_calls.nd rfl (Or.inl rfl) (pe_cc c_following_lines hr (by decide) rfl (pa_cons (pv 0) (pa_cons (pv 5) (pa_cons (pv 2) pa_nil)))))))))
      (pss_one (ps_ret (pe_callTy (call_tuple_K (rfl : _ = K)) (by rfl) T.b_tuple (by decide +kernel) (pa_cons (pv 2) pa_nil))))))), ?_⟩
    show tSeq _ _ _ [some (V.ref x), some (V.ref t), none, none, none, none, none, none] H
    walk_at "rd"
    intro o no
    have s1 := same_upd (o := .lst []) no
    have eo : upd H o (.lst []) o = some (.lst (([] : List Int).map V.int)) := upd_same
    have r1 := r.same s1
    generalize upd H o _ = H1 at s1 eo r1 ⊢
    walk_at "rd"
    refine r_getS r1.hfh hfm ?_
    walk_at "rd"
    intro al nal
    have s2 := same_upd (o := .tup [.int fm]) nal
    have ea : upd H1 al (.tup [.int fm]) al = some (.tup ([fm].map V.int)) := upd_same
    replace eo := s2 _ _ eo
    replace r1 := r1.same s2
    have s3 := s1.trans s2
    generalize upd H1 al _ = H2 at s3 ea eo r1 ⊢
    clear s1 s2 nal
    walk_at "rd"
    refine x_ienumT ?_
    walk_at "rd"
    refine ⟨ht.ext s3, for_it (walk_enumT (xs := ls.map V.int)) (fun i σ H' => Hold (∃ (al : Addr) (op als : List Int) (x4 x5 x6 x7 : Option V), σ = [some (V.ref x), some (V.ref t), some (V.ref o), some (V.ref al), x4, x5, x6, x7] ∧ Same H H' ∧
        H' o = some (.lst (op.map V.int)) ∧ H' al = some (.tup (als.map V.int)) ∧ op.length ≤ i ∧ walkL R be fi (ls.drop i) i (if i = 0 then none else ls[i - 1]?) op als = some res))
      ⟨al, [], [fm], none, none, none, none, rfl, s3, eo, ea, Nat.le_refl _, hw⟩ (fun i σ H' _ ⟨_, _, _, _, _, _, _, _, s, _⟩ => ht.ext s) ?_ ?_⟩
    · clear s3 ea eo r1 hw
      rintro i v σ H' H'' hi ⟨al, op, als, x4, x5, x6, x7, rfl, s, eo, ea, hop, hw⟩ ⟨T1, vx, vy, rfl, nT, rfl, hx, hy⟩
      replace hx : some (V.int (i : Nat)) = some vx := hx
      cases hx
      replace hy : (ls.map V.int)[i]? = some vy := hy
      rw [List.getElem?_map] at hy
      obtain ⟨l, hl1, rfl⟩ := Option.map_eq_some_iff.mp hy
      rw [drop_at hl1] at hw
      have hil : i < ls.length := by rw [List.length_map] at hi; exact hi
      have sT := same_upd (o := .tup [V.int (i : Nat), V.int l]) nT
      refine x_gtup2 upd_same ?_
      replace eo := sT _ _ eo
      replace ea := sT _ _ ea
      replace s := s.trans sT
      generalize upd H' T1 _ = H3 at s eo ea ⊢
      have r3 := r.same s
      walk_at "rd"
      refine x_notInT (SqT.of ea) rfl (by rw [List.all_map]; exact List.all_eq_true.mpr fun _ _ => rfl) ?_
      rw [inV_ints]
      walk_at "rd"
      unfold walkL at hw
      refine x_ND (fun h1 => ?_) (fun h1 => ?_)
      · rw [if_neg h1] at hw
        cases hw
        walk_at "rd"
        intro d nd
        exact kE i rfl d _ (s.trans (same_upd nd)) upd_same
      rw [if_pos h1] at hw
      obtain ⟨op2, hop2, hw⟩ := Option.bind_eq_some_iff.mp hw
      obtain ⟨al2, hal2, hw⟩ := Option.bind_eq_some_iff.mp hw
      walk_at "rd"
      refine ⟨fun σ' H4 => Hold (∃ x6 x7 : Option V, σ' = [some (V.ref x), some (V.ref t), some (V.ref o), some (V.ref al), some (V.int (i : Nat)), some (V.int l), x6, x7] ∧ Same H H4 ∧ H4 o = some (.lst (op2.map V.int)) ∧ op2.length ≤ i + 1), ?_, ?_⟩
      · walk_at "rd"
        refine x_D (fun h2 => ?_) (fun h2 => ?_)
        · have hi0 : i ≠ 0 := by omega
          rw [if_neg hi0] at hop2
          have hlt : i - 1 < ls.length := by omega
          have hb : ls[i - 1]? = some ls[i - 1] := List.getElem?_eq_getElem hlt
          generalize ls[i - 1] = b at hb
          rw [hb] at hop2
          replace hop2 : doneL R op b = some op2 := hop2
          unfold doneL at hop2
          obtain ⟨kd, hk, hop2⟩ := Option.bind_eq_some_iff.mp hop2
          have hat : atI (ls.map V.int) ((i : Int) - 1) = some (V.int b) := by
            rw [show (i : Int) - 1 = ((i - 1 : Nat) : Int) by omega]
            exact atI_nat (by rw [List.getElem?_map, hb]; rfl)
          walk_at "rd"
          refine x_ixT (ht.ext s) hat ?_
          walk_at "rd"
          refine r_getI r3.t3 hk ?_
          walk_at "rd"
          refine x_D (fun h3 => ?_) (fun h3 => ?_)
          · rw [if_pos (V.str.inj h3)] at hop2
            cases hop2
            walk_at "rd"
            refine ⟨Or.inl ⟨rfl, _, SqL.of eo⟩, ?_⟩
            walk_at "rd"
            refine ⟨o, _, V.int b, rfl, rfl, eo, ?_, ?_⟩
            · rw [List.length_map]
              have := big5
              omega
            walk_at "rd"
            exact ⟨_, _, rfl, same_at s no, by rw [upd_same, List.map_append]; rfl, by rw [List.length_append]; exact Nat.succ_le_succ hop⟩
          rw [if_neg fun q => h3 (congrArg V.str q)] at hop2
          walk_at "rd"
          refine x_D (fun h4 => ?_) (fun h4 => ?_)
          · have hib : isBack R kd b = true := by unfold isBack; rw [decide_eq_true (V.str.inj h4)]; rfl
            rw [if_pos hib] at hop2
            cases hla : op.getLast? with
            | none =>
              rw [List.getLast?_eq_none_iff] at hla
              rw [if_pos hla] at hop2
              cases hop2
            | some c =>
              rw [if_neg fun q => by rw [q] at hla; cases hla] at hop2
              cases hop2
              walk_at "rd"
              refine ⟨Or.inl ⟨rfl, _, SqL.of eo⟩, o, op.map V.int, V.int c, rfl, rfl, eo, by rw [← List.getLast?_eq_getElem?, List.getLast?_map, hla]; rfl, ?_⟩
              walk_at "rd"
              exact ⟨_, _, rfl, same_at s no, by rw [upd_same, List.map_dropLast], by rw [List.length_dropLast]; omega⟩
          have h4' : ¬ kd = ("back" : Str) := fun q => h4 (congrArg V.str q)
          walk_at "rd"
          refine x_D (fun h5 => ?_) (fun h5 => ?_)
          · walk_at "rd"
            refine r_dninI r3.t5 ?_
            walk_at "rd"
            refine x_NB (fun h6 => ?_) (fun h6 => ?_)
            · have hib : isBack R kd b = true := by unfold isBack; rw [decide_eq_true (V.str.inj h5), h6, Bool.or_eq_true]; exact .inr rfl
              rw [if_pos hib] at hop2
              cases hla : op.getLast? with
              | none =>
                rw [List.getLast?_eq_none_iff] at hla
                rw [if_pos hla] at hop2
                cases hop2
              | some c =>
                rw [if_neg fun q => by rw [q] at hla; cases hla] at hop2
                cases hop2
                walk_at "rd"
                refine ⟨Or.inl ⟨rfl, _, SqL.of eo⟩, o, op.map V.int, V.int c, rfl, rfl, eo, by rw [← List.getLast?_eq_getElem?, List.getLast?_map, hla]; rfl, ?_⟩
                walk_at "rd"
                exact ⟨_, _, rfl, same_at s no, by rw [upd_same, List.map_dropLast], by rw [List.length_dropLast]; omega⟩
            · have hib : isBack R kd b = false := by unfold isBack; rw [decide_eq_false h4', h6, Bool.not_true, Bool.and_false]; rfl
              rw [if_neg (by rw [hib]; decide)] at hop2
              cases hop2
              walk_at "rd"
              exact ⟨_, _, rfl, s, eo, Nat.le_succ_of_le hop⟩
          · have hib : isBack R kd b = false := by unfold isBack; rw [decide_eq_false h4', decide_eq_false fun q => h5 (congrArg V.str q)]; rfl
            rw [if_neg (by rw [hib]; decide)] at hop2
            cases hop2
            walk_at "rd"
            exact ⟨_, _, rfl, s, eo, Nat.le_succ_of_le hop⟩
        · have hi0 : i = 0 := by omega
          rw [if_pos hi0] at hop2
          cases hop2
          walk_at "rd"
          exact ⟨_, _, rfl, s, eo, Nat.le_succ_of_le hop⟩
      · rintro σ' H4 ⟨x6, x7, rfl, s4, eo4, hop4⟩
        have r4 := r.same s4
        walk_at "rd"
        refine ⟨x, ad, mo, pr, bh, fh, R, z, be, fi, l, o, op2, al2, rfl, r4, Or.inl (SqL.of eo4), hal2, sm2, fun t2 H5 s5 e5 => ?_⟩
        walk_at "rd"
        refine ⟨t2, op2, al2, _, _, _, _, rfl, s4.trans s5, s5 _ _ eo4, e5, hop4, ?_⟩
        rw [if_neg (Nat.succ_ne_zero i), Nat.succ_sub_one, hl1]
        exact hw
    · rintro σ H' ⟨al, op, als, x4, x5, x6, x7, rfl, s, eo, ea, hop, hw⟩
      rw [List.length_map, List.drop_of_length_le (Nat.le_refl _)] at hw
      cases hw
      walk_at "rd"
      refine x_tupL (SqL.of eo) fun p np => ?_
      exact kQ op rfl p _ (s.trans (same_upd np)) upd_same
end
end MP
end
section
namespace MP
open PySem L2
/-! ### shortest runs: mirrors -/
def leastI : List Int → Option Int
  | [] => none
  | a :: r => some (r.foldl min a)
def leastL (l : List (Option Int)) : Option Int := leastI (l.filterMap id)
def sumL : List (Option Int) → Int → Option Int
  | [], t => some t
  | none :: _, _ => none
  | some n :: r, t => sumL r (t + n)
theorem stepL_len {R : RdM} {be : List (Int × Int)} {l : Int} {xs : List Int} (sm2 : Sm2 R) (h : stepL R be l = some xs) : xs.length < 1010 := by
  unfold stepL at h
  obtain ⟨k, hk, h⟩ := Option.bind_eq_some_iff.mp h
  split at h
  · obtain ⟨b, hb, h⟩ := Option.bind_eq_some_iff.mp h
    obtain ⟨y, hy, h⟩ := Option.bind_eq_some_iff.mp h
    obtain ⟨rr, hrr, rfl⟩ := Option.map_eq_some_iff.mp h
    have h1 := (mapM_at hrr).1
    have h2 := sm2.o _ (look_mem hy)
    rw [List.length_cons, h1]
    show y.2.length + 1 < 1010
    have h2 : y.2.length < 1000 := h2
    omega
  split at h
  · obtain ⟨b, hb, h⟩ := Option.bind_eq_some_iff.mp h
    obtain ⟨y, hy, h⟩ := Option.bind_eq_some_iff.mp h
    obtain ⟨rr, hrr, rfl⟩ := Option.map_eq_some_iff.mp h
    simp
  split at h
  · obtain ⟨b, hb, h⟩ := Option.bind_eq_some_iff.mp h
    obtain ⟨y, hy, h⟩ := Option.bind_eq_some_iff.mp h
    obtain ⟨rr, hrr, rfl⟩ := Option.map_eq_some_iff.mp h
    simp
  split at h
  · obtain ⟨b, hb, h⟩ := Option.bind_eq_some_iff.mp h
    obtain ⟨y, hy, h⟩ := Option.bind_eq_some_iff.mp h
    obtain ⟨rr, hrr, rfl⟩ := Option.map_eq_some_iff.mp h
    simp
  split at h
  · obtain ⟨b, hb, h⟩ := Option.bind_eq_some_iff.mp h
    obtain ⟨y, hy, h⟩ := Option.bind_eq_some_iff.mp h
    split at h
    · obtain ⟨f, hf, h⟩ := Option.bind_eq_some_iff.mp h
      obtain ⟨rr, hrr, rfl⟩ := Option.map_eq_some_iff.mp h
      simp
    split at h <;> (obtain ⟨rr, hrr, rfl⟩ := Option.map_eq_some_iff.mp h; simp)
  split at h
  · obtain ⟨rr, hrr, rfl⟩ := Option.map_eq_some_iff.mp h
    simp
  · cases h
    decide
theorem foldmin_le : ∀ (l : List Int) (a : Int), l.foldl min a ≤ a ∧ (∀ j ∈ l, l.foldl min a ≤ j) ∧ (l.foldl min a = a ∨ l.foldl min a ∈ l)
  | [], a => ⟨Int.le_refl _, fun j h => (by cases h), .inl rfl⟩
  | b :: r, a => by
    obtain ⟨h1, h2, h3⟩ := foldmin_le r (min a b)
    rw [List.foldl_cons]
    refine ⟨by omega, fun j hj => ?_, ?_⟩
    · rcases List.mem_cons.mp hj with rfl | hj
      · omega
      · exact h2 j hj
    · rcases h3 with h3 | h3
      · rw [h3]
        rcases Int.le_total a b with q | q
        · exact .inl (by omega)
        · exact .inr (by rw [show min a b = b by omega]; exact List.mem_cons_self)
      · exact .inr (List.mem_cons_of_mem _ h3)
theorem leastI_is {l : List Int} {m : Int} (h : m ∈ l) (hm : ∀ j ∈ l, m ≤ j) : leastI l = some m := by
  match l, h, hm with
  | a :: r, h, hm =>
    obtain ⟨h1, h2, h3⟩ := foldmin_le r a
    unfold leastI
    have e1 : r.foldl min a ≤ m := by
      rcases List.mem_cons.mp h with q | q
      · rw [q]; exact h1
      · exact h2 m q
    have e2 : m ≤ r.foldl min a := by
      rcases h3 with q | q
      · rw [q]; exact hm a List.mem_cons_self
      · exact hm _ (List.mem_cons_of_mem _ q)
    show some (r.foldl min a) = some m
    rw [show r.foldl min a = m by omega]
def optI : Option Int → V
  | none => .non
  | some n => .int n
theorem look_optI {κ : Type} [DecidableEq κ] (l : List (κ × Int)) (k : κ) : ((look l k).map V.int).getD .non = optI (look l k) := by cases look l k <;> rfl
def retL (R : RdM) (be : List (Int × Int)) (fi : List (Str × Int)) (rs : List (Int × Int)) (l : Int) : Option (Option Int) :=
  (look R.kinds l).bind fun k => if isBack R k l = true then some (some 1)
  else if k = ("call" : Str) then (look R.calls l).bind fun n => (look fi n).bind fun f => (look be l).bind fun b => some (sumL [some 1, look rs f, look rs b] 0)
  else (stepL R be l).bind fun xs => some (sumL [some 1, leastL (xs.map (look rs))] 0)
def stopL (R : RdM) (be : List (Int × Int)) (fi : List (Str × Int)) (rs ss : List (Int × Int)) (l : Int) : Option (Option Int) :=
  (look R.kinds l).bind fun k => if k = ("stop" : Str) then some (some 1)
  else if k = ("call" : Str) then (look R.calls l).bind fun n => (look fi n).bind fun f => (look be l).bind fun b => some (leastL [sumL [some 1, look ss f] 0, sumL [some 1, look rs f, look ss b] 0])
  else (stepL R be l).bind fun xs => some (sumL [some 1, leastL (xs.map (look ss))] 0)
/-- a length that is found is noted, if it is not the one that stands there -/
def noteL (far : Option Int) (d : List (Int × Int)) (l : Int) (ch : Bool) : List (Int × Int) × Bool := match far with
  | none => (d, ch)
  | some n => if look d l = some n then (d, ch) else (putG d l n, true)
def turnL (R : RdM) (be : List (Int × Int)) (fi : List (Str × Int)) (st : List (Int × Int) × List (Int × Int) × Bool) (l : Int) : Option (List (Int × Int) × List (Int × Int) × Bool) :=
  (retL R be fi st.1 l).bind fun far =>
    let a := noteL far st.1 l st.2.2
    (stopL R be fi a.1 st.2.1 l).bind fun far2 =>
      let b := noteL far2 st.2.1 l a.2
      some (a.1, b.1, b.2)
def roundL (R : RdM) (be : List (Int × Int)) (fi : List (Str × Int)) : List Int → List (Int × Int) × List (Int × Int) × Bool → Option (List (Int × Int) × List (Int × Int) × Bool)
  | [], st => some st
  | l :: r, st => (turnL R be fi st l).bind fun st2 => roundL R be fi r st2
def tabsL (R : RdM) (be : List (Int × Int)) (fi : List (Str × Int)) : Nat → List (Int × Int) → List (Int × Int) → Option (List (Int × Int) × List (Int × Int))
  | 0, _, _ => none
  | n + 1, rs, ss => (roundL R be fi (R.owners.map (·.1)) (rs, ss, false)).bind fun st => if st.2.2 = true then tabsL R be fi n st.1 st.2.1 else some (st.1, st.2.1)
def nextL (tb : List (Int × Int)) (l : Int) : List Int → Option (Option Int)
  | [] => some none
  | o :: r => match look tb o with
    | none => nextL tb l r
    | some n => (look tb l).bind fun m => if n + 1 = m then some (some o) else nextL tb l r
def sstepL (R : RdM) (be : List (Int × Int)) (fi : List (Str × Int)) (rs ss : List (Int × Int)) (l : Int) (ret : Bool) : Option (Option Int × Bool × List (Int × Bool)) :=
  (look R.kinds l).bind fun k => if k = ("call" : Str) then (look R.calls l).bind fun n => (look fi n).bind fun f => (look be l).bind fun b =>
      (if ret = true then some false else match look ss f with
        | none => some false
        | some m => (look ss l).bind fun m2 => some (decide (m + 1 = m2))).bind fun c =>
      if c = true then some (some f, false, []) else some (some f, true, [(b, ret)])
  else (stepL R be l).bind fun xs => (nextL (if ret = true then rs else ss) l xs).bind fun o => match o with
    | some o => some (some o, ret, [])
    | none => some (none, ret, [])
def linesL (R : RdM) (be : List (Int × Int)) (fi : List (Str × Int)) (rs ss : List (Int × Int)) : Nat → Option Int → Bool → List (Int × Bool) → List Int → Option (List Int)
  | 0, _, _, _, _ => none
  | n + 1, some l, ret, gs, ls => (sstepL R be fi rs ss l ret).bind fun t => linesL R be fi rs ss n t.1 t.2.1 (gs ++ t.2.2) (ls ++ [l])
  | n + 1, none, _, gs, ls => match gs.getLast? with
    | none => some ls
    | some g => linesL R be fi rs ss n (some g.1) g.2 gs.dropLast ls
end MP
end
section
namespace MP
open PySem L2
/-! ### tuples compared -/
theorem dpInts {K : PySem.W.Frag} {H : Hp} : ∀ xs : List Int, DpAll K H (xs.map V.int) (xs.map PyData.int)
  | [] => .nil
  | a :: r => .cons (.int a) (dpInts r)
theorem dpStrs {K : PySem.W.Frag} {H : Hp} : ∀ xs : List Str, DpAll K H (xs.map V.str) (xs.map PyData.str)
  | [] => .nil
  | a :: r => .cons (.str a) (dpStrs r)
theorem layInts : ∀ ns : List Int, PyData.canLayAll0 (ns.map PyData.int) = true
  | [] => rfl
  | _ :: r => by simp [PyData.canLayAll0, PyData.canLay0, layInts r]
theorem depInts : ∀ ns : List Int, PyData.depthAll (ns.map PyData.int) = 0
  | [] => rfl
  | _ :: r => by simp [PyData.depthAll, PyData.depth, depInts r]
theorem shInts (ns : List Int) : SeqAt.shaped (.tuple (ns.map PyData.int)) = true := by
  simp [SeqAt.shaped, PyData.canLay0, PyData.depth, layInts, depInts]
theorem layStrs : ∀ ns : List Str, (∀ x ∈ ns, PyData.strOk x = true) → PyData.canLayAll0 (ns.map PyData.str) = true
  | [], _ => rfl
  | a :: r, h => by simp [PyData.canLayAll0, PyData.canLay0, layStrs r fun x hx => h x (List.mem_cons_of_mem _ hx), h a List.mem_cons_self]
theorem depStrs : ∀ ns : List Str, PyData.depthAll (ns.map PyData.str) = 0
  | [] => rfl
  | _ :: r => by simp [PyData.depthAll, PyData.depth, depStrs r]
theorem shStrs (ns : List Str) (h : ∀ x ∈ ns, PyData.strOk x = true) : SeqAt.shaped (.tuple (ns.map PyData.str)) = true := by
  simp [SeqAt.shaped, PyData.canLay0, PyData.depth, layStrs ns h, depStrs]
theorem eqvInts : ∀ ns ms : List Int, PyData.eqvAll (ns.map PyData.int) (ms.map PyData.int) = decide (ns = ms)
  | [], [] => by simp [PyData.eqvAll]
  | [], _ :: _ => by simp [PyData.eqvAll]
  | _ :: _, [] => by simp [PyData.eqvAll]
  | a :: r, b :: t => by
    simp only [List.map_cons, PyData.eqvAll, PyData.eqv, eqvInts r t]
    by_cases h : a = b <;> by_cases h' : r = t <;> simp [h, h']
theorem eqvStrs : ∀ ns ms : List Str, PyData.eqvAll (ns.map PyData.str) (ms.map PyData.str) = decide (ns = ms)
  | [], [] => by simp [PyData.eqvAll]
  | [], _ :: _ => by simp [PyData.eqvAll]
  | _ :: _, [] => by simp [PyData.eqvAll]
  | a :: r, b :: t => by
    simp only [List.map_cons, PyData.eqvAll, PyData.eqv, eqvStrs r t]
    by_cases h : a = b <;> by_cases h' : r = t <;> simp [h, h']
section
variable {K : PySem.W.Frag} {H : Hp} {Q : VK} {a b : Addr}
theorem x_eqInts {xs ys : List Int} (h1 : SqT K H a (xs.map V.int)) (h2 : SqT K H b (ys.map V.int)) (q : Q (.bl (decide (xs = ys))) H) : rEqD K (.ref a) (.ref b) H Q :=
  ⟨_, _, .tup h1 (dpInts xs), .tup h2 (dpInts ys), shInts xs, shInts ys, by show Q (.bl (PyData.eqvAll _ _)) H; rw [eqvInts]; exact q⟩
theorem x_neInts {xs ys : List Int} (h1 : SqT K H a (xs.map V.int)) (h2 : SqT K H b (ys.map V.int)) (q : Q (.bl (!decide (xs = ys))) H) : rNeD K (.ref a) (.ref b) H Q :=
  ⟨_, _, .tup h1 (dpInts xs), .tup h2 (dpInts ys), shInts xs, shInts ys, by show Q (.bl (!PyData.eqvAll _ _)) H; rw [eqvInts]; exact q⟩
theorem x_neStrs {xs ys : List Str} (o1 : ∀ x ∈ xs, PyData.strOk x = true) (o2 : ∀ x ∈ ys, PyData.strOk x = true) (h1 : SqT K H a (xs.map V.str)) (h2 : SqT K H b (ys.map V.str)) (q : Q (.bl (!decide (xs = ys))) H) : rNeD K (.ref a) (.ref b) H Q :=
  ⟨_, _, .tup h1 (dpStrs xs), .tup h2 (dpStrs ys), shStrs xs o1, shStrs ys o2, by show Q (.bl (!PyData.eqvAll _ _)) H; rw [eqvStrs]; exact q⟩
end
theorem same_ext {H H' : Hp} (s : Same H H') : Ext H H' := s
/-! ### a run -/
def runF (x t o : Addr) (c : Bool) : List (Str × V) := [("program", .ref x), ("lines", .ref t), ("open_calls", .ref o), ("complete", .bl c)]
def runA : List Str := ["program", "lines", "open_calls", "complete"]
structure RunCls (K : PySem.W.Frag) (CR : Addr) : Prop where
  cl : Cls K CR
  na : ∀ f ∈ runA, NoAttr K CR f
structure RunAt (K : PySem.W.Frag) (CR : Addr) (H : Hp) (y x t o : Addr) (ls op : List Int) (c : Bool) : Prop where
  ob : ∃ dy, H y = some (.ins CR dy (runF x t o c))
  hl : SqT K H t (ls.map V.int)
  ho : H o = some (.tup (op.map V.int))
theorem RunAt.same {K : PySem.W.Frag} {CR : Addr} {H H' : Hp} {y x t o : Addr} {ls op : List Int} {c : Bool} (r : RunAt K CR H y x t o ls op c) (s : Same H H') : RunAt K CR H' y x t o ls op c :=
  ⟨let ⟨d, e⟩ := r.ob; ⟨d, s _ _ e⟩, r.hl.ext s, s _ _ r.ho⟩
theorem r_rn {K K2 : PySem.W.Frag} {CR : Addr} {H : Hp} {y x t o : Addr} {ls op : List Int} {c : Bool} {f : Str} {v : V} {Q : VK} (r : RunAt K2 CR H y x t o ls op c) (T : RunCls K CR) (hm : f ∈ runA) (hl : (runF x t o c).lookup f = some v) (h : Q v H) : rFld K f (.ref y) H Q :=
  let ⟨dy, e⟩ := r.ob
  ⟨y, CR, dy, _, v, rfl, e, T.cl, T.na f hm, hl, h⟩
def compL (R : RdM) (be : List (Int × Int)) (fi : List (Str × Int)) (ls op : List Int) : Option Bool := match ls.getLast? with
  | none => some false
  | some l => (follL R be fi l op).map List.isEmpty
/-- a new thing at y under way -/
structure NwI (C dy : Addr) (H0 H : Hp) (y : Addr) (fs : List (Str × V)) : Prop where
  ob : H y = some (.ins C dy fs)
  fr : ∀ b o, H0 b = some o → b ≠ y → H b = some o
section
variable {K : PySem.W.Frag} {C C0 dy dy0 : Addr} {H0 H H' : Hp} {y : Addr} {fs fs0 : List (Str × V)}
theorem NwI.same (i : NwI C dy H0 H y fs) (s : Same H H') : NwI C dy H0 H' y fs := ⟨s _ _ i.ob, fun b o e n => s _ _ (i.fr b o e n)⟩
theorem NwI.put {f : Str} {v : V} {N : Hp → Prop} (i : NwI C dy H0 H y fs) (cl : Cls K C) (na : NoAttr K C f) (hl : fs.length < 1000) (q : ∀ H', NwI C dy H0 H' y (putF f v fs) → (∀ b o, H b = some o → b ≠ y → H' b = some o) → N H') :
    ∃ fs', V.ref y = V.ref y ∧ H y = some (.ins C dy fs') ∧ Cls K C ∧ NoAttr K C f ∧ fs'.length < 1000 ∧ N (upd H y (.ins C dy (putF f v fs'))) :=
  ⟨fs, rfl, i.ob, cl, na, hl, q _ ⟨upd_same, fun b o e n => by rw [upd_ne n]; exact i.fr b o e n⟩ fun b o e n => by rw [upd_ne n]; exact e⟩
theorem NwI.rd {f : Str} {v : V} {Q : VK} (i : NwI C dy H0 H y fs) (cl : Cls K C) (na : NoAttr K C f) (hl : fs.lookup f = some v) (q : Q v H) : rFld K f (.ref y) H Q := ⟨y, C, dy, fs, v, rfl, i.ob, cl, na, hl, q⟩
theorem SqT.fr {a : Addr} {xs : List V} (h : SqT K H a xs) (hy : H y = some (.ins C dy fs)) (k : ∀ b o, H b = some o → b ≠ y → H' b = some o) : SqT K H' a xs :=
  h.elim (fun h => .inl (h.elim (fun h => .inl (k _ _ h (ne_of h hy fun z => by cases z))) fun ⟨o, h⟩ => .inr ⟨o, k _ _ h (ne_of h hy fun z => by cases z)⟩)) fun h => .inr h
theorem SqL.fr {a : Addr} {xs : List V} (h : SqL K H a xs) (hy : H y = some (.ins C dy fs)) (k : ∀ b o, H b = some o → b ≠ y → H' b = some o) : SqL K H' a xs :=
  h.elim (fun h => .inl (h.elim (fun h => .inl (k _ _ h (ne_of h hy fun z => by cases z))) fun ⟨o, h⟩ => .inr ⟨o, k _ _ h (ne_of h hy fun z => by cases z)⟩)) fun h => .inr h
theorem ProgAt.fr {CP x : Addr} {ad : Nat → Addr} {mo pr bh fh : Addr} {R : RdM} {z : Str} {be : List (Int × Int)} {fi : List (Str × Int)} (r : ProgAt CP H x ad mo pr bh fh R z be fi) (hy : H y = some (.ins C dy fs)) (yx : x ≠ y) (k : ∀ b o, H b = some o → b ≠ y → H' b = some o) : ProgAt CP H' x ad mo pr bh fh R z be fi := by
  obtain ⟨⟨dx, ho⟩, h1, h2, h3, h4, ht, hw, hd, hn⟩ := r
  refine ⟨⟨dx, k _ _ ho yx⟩, k _ _ h1 (ne_of h1 hy fun z => by cases z), k _ _ h2 (ne_of h2 hy fun z => by cases z), k _ _ h3 (ne_of h3 hy fun z => by cases z), k _ _ h4 (ne_of h4 hy fun z => by cases z), fun i h h' => ?_, hw.elim (fun e => .inl (k _ _ e (ne_of e hy fun z => by cases z))) (fun ⟨o, e⟩ => .inr ⟨o, k _ _ e (ne_of e hy fun z => by cases z)⟩), hd, ⟨fun a ha => ⟨k _ _ (hn.mo a ha).1 (ne_of (hn.mo a ha).1 hy fun z => by cases z), (hn.mo a ha).2⟩, fun a ha => ⟨k _ _ (hn.os a ha).1 (ne_of (hn.os a ha).1 hy fun z => by cases z), (hn.os a ha).2⟩, fun a ha => ⟨k _ _ (hn.wo a ha).1 (ne_of (hn.wo a ha).1 hy fun z => by cases z), (hn.wo a ha).2⟩⟩⟩
  have e := ht i h h'
  cases q : (tabs R)[i]? with
  | none => exact absurd (List.getElem?_eq_none_iff.mp q) (by show ¬ 12 ≤ i; omega)
  | some o =>
    rw [q] at e
    refine k _ _ e (ne_of e hy fun w => ?_)
    subst w
    have : i = 0 ∨ i = 1 ∨ i = 2 ∨ i = 3 ∨ i = 4 ∨ i = 5 ∨ i = 6 ∨ i = 7 ∨ i = 8 ∨ i = 9 ∨ i = 10 := by omega
    rcases this with rfl | rfl | rfl | rfl | rfl | rfl | rfl | rfl | rfl | rfl | rfl <;> cases q
theorem x_tupA {a : Addr} {xs : List V} {Q : VK} (h : SqL K H a xs ∨ SqT K H a xs) (q : ∀ t H', Same H H' → SqT K H' t xs → Q (.ref t) H') : rTup K [.ref a] H Q := ⟨a, xs, rfl, h.elim (fun h => .inl ⟨h, fun l nl => q l _ (same_upd nl) (SqT.of upd_same)⟩) fun h => .inr ⟨h, q a H (fun _ _ e => e) h⟩⟩
end
/-- an error that leaves a thing that is being made -/
def ErrX (C : Addr) (f : Str) (v : V) (H : Hp) (y : Addr) (E : XK) : Prop := ∀ d H', (∀ b o, H b = some o → b ≠ y → H' b = some o) → H' d = some (.xd [(f, v)]) → E (.ref C) (some d) H'
/-- the value of the next item from a place on -/
def nextM (R : RdM) (m : Str) (ls : List Int) : Str := match ls.findSome? (itemM R m) with
  | some v => if v = ("?" : Str) then ("-" : Str) else v
  | none => ("-" : Str)
theorem cutV_to (xs : List V) (k : Nat) : cutV xs none (some (k : Int)) = xs.take k := by
  unfold cutV
  rw [HT.sIx_nat, HT.sIx_none, Nat.sub_zero, List.drop_zero]
  by_cases h : k ≤ xs.length
  · rw [Nat.min_eq_left h]
  · rw [Nat.min_eq_right (by omega), List.take_of_length_le (Nat.le_refl _), List.take_of_length_le (by omega)]
theorem whole_to {n k : Nat} (h : HT.sIx n 0 none = 0 ∧ HT.sIx n n (some (k : Int)) = n) : n ≤ k := by
  rw [HT.sIx_nat] at h
  omega
theorem whole_from {n k : Nat} (h : HT.sIx n 0 (some (k : Int)) = 0 ∧ HT.sIx n n none = n) : k = 0 ∨ n = 0 := by
  rw [HT.sIx_nat] at h
  omega
/-- a tuple cut behind k -/
theorem x_cutTo {K : PySem.W.Frag} {H : Hp} {Q : VK} {a : Addr} {xs : List Int} {k : Nat} (h : SqT K H a (xs.map V.int)) (q : ∀ p H', Same H H' → SqT K H' p ((xs.take k).map V.int) → Q (.ref p) H') : rSlA K (.ref a) none (some (k : Int)) H Q := by
  refine ⟨a, _, rfl, h, fun hw => ?_, fun _ p np => ?_⟩
  · have hk := whole_to hw
    rw [List.length_map] at hk
    refine q a H (fun _ _ e => e) ?_
    rw [List.take_of_length_le hk]
    exact h
  · refine q p _ (same_upd np) ?_
    rw [cutV_to, ← List.map_take]
    exact SqT.of upd_same
theorem x_cutFrom {K : PySem.W.Frag} {H : Hp} {Q : VK} {a : Addr} {xs : List Int} {k : Nat} (h : SqT K H a (xs.map V.int)) (q : ∀ p H', Same H H' → SqT K H' p ((xs.drop k).map V.int) → Q (.ref p) H') : rSlA K (.ref a) (some (k : Int)) none H Q := by
  refine ⟨a, _, rfl, h, fun hw => ?_, fun _ p np => ?_⟩
  · have hk := whole_from hw
    refine q a H (fun _ _ e => e) ?_
    rw [List.length_map] at hk
    rcases hk with rfl | hk
    · exact h
    · rw [List.drop_of_length_le (by omega)]
      rw [List.eq_nil_of_length_eq_zero hk] at h
      exact h
  · refine q p _ (same_upd np) ?_
    rw [cutV_from, ← List.map_drop]
    exact SqT.of upd_same
end MP
end
section
open PySem L2 MPX MP
local macro_rules | `(tactic| walk_at "rd1") => `(tactic| first
  | with_reducible refine x_seq ?_
  | with_reducible refine x_next ?_
  | with_reducible refine x_ret ?_
  | with_reducible refine x_retN ?_
  | with_reducible refine x_ifs ?_
  | with_reducible refine x_asg ?_
  | with_reducible refine x_drop ?_
  | with_reducible refine x_name ?_
  | ((with_reducible refine' x_var ?vv ?_); (case vv => exact rfl))
  | with_reducible refine x_c ?_
  | with_reducible refine x_op ?_
  | with_reducible refine x_un ?_
  | with_reducible refine x_test ?_
  | with_reducible refine x_tB ?_
  | with_reducible refine x_and ?_
  | with_reducible refine x_or ?_
  | with_reducible refine x_not ?_
  | with_reducible refine x_andV ?_
  | with_reducible refine x_orV ?_
  | with_reducible refine x_notV ?_
  | with_reducible refine x_if ?_
  | with_reducible refine x_nil ?_
  | with_reducible refine x_cons ?_
  | with_reducible refine x_tup ?_
  | with_reducible refine x_lst ?_
  | with_reducible refine x_cb ?_
  | with_reducible refine x_call ?_
  | with_reducible refine x_callS ?_
  | with_reducible refine x_callP ?_
  | with_reducible refine x_mk0 ?_
  | with_reducible refine x_mk1 ?_
  | with_reducible refine x_mk2 ?_
  | with_reducible refine x_make ?_
  | with_reducible refine x_sfld ?_
  | with_reducible refine x_din ?_
  | with_reducible refine x_dnin ?_
  | with_reducible refine x_fldS ?_
  | with_reducible refine x_sl3 ?_
  | ((with_reducible refine' r_pg ?vr ?vt ?vm ?vl ?vq); (case vr => (with_reducible assumption)); (case vt => assumption); (case vm => decide +kernel); (case vl => exact rfl))
  | ((with_reducible refine' r_rn ?vr ?vt ?vm ?vl ?vq); (case vr => (with_reducible assumption)); (case vt => assumption); (case vm => decide +kernel); (case vl => exact rfl))
  | with_reducible refine x_m0 ?_
  | with_reducible refine x_m1 ?_
  | with_reducible refine x_bm0 ?_
  | with_reducible refine x_bm ?_
  | with_reducible refine x_par ?_
  | with_reducible refine x_ilist ?_
  | with_reducible refine x_itup ?_
  | with_reducible refine x_istr ?_
  | ((with_reducible show tLc _ _ _ _ _ _ _ _); unfold tLc)
  | ((with_reducible show tFor _ _ _ _ _ _); unfold tFor)
  | ((with_reducible refine' x_eq ?vv ?_); (case vv => exact rfl))
  | ((with_reducible refine' x_ne ?vv ?_); (case vv => exact rfl))
  | with_reducible refine x_rI0 ?_
  | with_reducible refine x_dgetR ?_
  | with_reducible refine x_dputR ?_
  | with_reducible refine x_dnew ?_
  | with_reducible refine x_dget1 ?_
  | with_reducible refine x_dget2 ?_
  | with_reducible refine x_sl ?_
  | with_reducible refine x_nopart ?_
  | with_reducible refine x_part ?_
  | ((with_reducible refine' x_slL ?vv ?_); (case vv => (with_reducible assumption)))
  | with_reducible refine x_disp ?_
  | with_reducible refine x_pcons ?_
  | with_reducible refine x_pnil ?_
  | ((with_reducible refine' x_mod ?vv ?_); (case vv => omega); intro r er hr0 hr1; (try clear er))
  | ((with_reducible refine' x_rI ?vv ?_); (case vv => walk_at "sc"))
  | (with_reducible refine Or.inl (Exists.intro _ (And.intro rfl ?_)))
  | with_reducible refine x_T ?_
  | with_reducible refine x_F ?_
  | ((with_reducible show Exists (α := V) _); (with_reducible apply Exists.intro))
  | ((with_reducible show Exists (α := Bool) _); (with_reducible apply Exists.intro))
  | ((with_reducible show Exists (α := Nat) _); (with_reducible apply Exists.intro))
  | ((with_reducible show Exists (α := Int) _); (with_reducible apply Exists.intro))
  | ((with_reducible show Exists (α := List V) _); (with_reducible apply Exists.intro))
  | ((with_reducible show Exists (α := PySem.Str) _); (with_reducible apply Exists.intro))
  | ((with_reducible show Exists (α := Option V) _); (with_reducible apply Exists.intro))
  | ((with_reducible show Exists (α := Option Int) _); (with_reducible apply Exists.intro))
  | ((with_reducible show Exists (α := List (Key × V)) _); (with_reducible apply Exists.intro))
  | refine And.intro rfl ?_
  | ((with_reducible refine And.intro ?vv ?_); (case vv => (first | (with_reducible assumption) | (show _ ≤ sizeLine; decide) | exact len_ok rfl)))
  | (refine And.intro (Exists.intro _ rfl) ?_))
local macro_rules | `(tactic| walk_at "sc") => `(tactic| first
  | (with_reducible assumption)
  | exact divW (by omega) (by omega)
  | exact mulW (by omega) (by omega)
  | exact Or.inl ⟨by omega, by omega⟩
  | exact Or.inr ⟨by omega, by omega⟩
  | (show (_ : Int) ≠ 0; omega)
  | exact ⟨by decide, by decide, by decide⟩
  | decide)
local macro_rules | `(tactic| walk_at "rd") => `(tactic| repeat walk_at "rd1")
namespace MP
open PySem L2 StX
section
variable {P : Program} {w : World} {K : PySem.W.Frag} {mg : Str → Option Value} {base : Heap} {ts : Nat → Tok} {CP CM CN CR : Addr}
abbrev s_Run___init__ : Stmt := inClass (topS 46) 0
abbrev N_Run___init__ : List Str := ["self", "program", "lines"]
abbrev P_Run___init__ : List Str := ["self", "program", "lines"]
theorem sc_Run___init__ : FnScope N_Run___init__ P_Run___init__ (defScope s_Run___init__) := ⟨rfl, rfl, rfl, by decide +kernel, rfl, by decide +kernel, by decide +kernel⟩
abbrev s_Run_last : Stmt := inClass (topS 46) 7
abbrev N_Run_last : List Str := ["self", "mode", "index"]
abbrev P_Run_last : List Str := ["self", "mode", "index"]
theorem sc_Run_last : FnScope N_Run_last P_Run_last (defScope s_Run_last) := ⟨rfl, rfl, rfl, by decide +kernel, rfl, by decide +kernel, by decide +kernel⟩
abbrev s_Run_next : Stmt := inClass (topS 46) 8
abbrev N_Run_next : List Str := ["self", "mode", "index", "line", "value"]
abbrev P_Run_next : List Str := ["self", "mode", "index"]
theorem sc_Run_next : FnScope N_Run_next P_Run_next (defScope s_Run_next) := ⟨rfl, rfl, rfl, by decide +kernel, rfl, by decide +kernel, by decide +kernel⟩
abbrev s_Run_need : Stmt := inClass (topS 46) 9
abbrev N_Run_need : List Str := ["self", "mode"]
abbrev P_Run_need : List Str := ["self", "mode"]
theorem sc_Run_need : FnScope N_Run_need P_Run_need (defScope s_Run_need) := ⟨rfl, rfl, rfl, by decide +kernel, rfl, by decide +kernel, by decide +kernel⟩
abbrev s_Run___len__ : Stmt := inClass (topS 46) 3
abbrev N_Run___len__ : List Str := ["self"]
abbrev P_Run___len__ : List Str := ["self"]
theorem sc_Run___len__ : FnScope N_Run___len__ P_Run___len__ (defScope s_Run___len__) := ⟨rfl, rfl, rfl, by decide +kernel, rfl, by decide +kernel, by decide +kernel⟩
abbrev s_Run___eq__ : Stmt := inClass (topS 46) 5
abbrev N_Run___eq__ : List Str := ["self", "other"]
abbrev P_Run___eq__ : List Str := ["self", "other"]
theorem sc_Run___eq__ : FnScope N_Run___eq__ P_Run___eq__ (defScope s_Run___eq__) := ⟨rfl, rfl, rfl, by decide +kernel, rfl, by decide +kernel, by decide +kernel⟩
abbrev s_Program___eq__ : Stmt := inClass (topS 41) 1
abbrev N_Program___eq__ : List Str := ["self", "other"]
abbrev P_Program___eq__ : List Str := ["self", "other"]
theorem sc_Program___eq__ : FnScope N_Program___eq__ P_Program___eq__ (defScope s_Program___eq__) := ⟨rfl, rfl, rfl, by decide +kernel, rfl, by decide +kernel, by decide +kernel⟩
structure RunT2 (P : Program) (K : PySem.W.Frag) (mg : Str → Option Value) (CP CM CN CR : Addr) : Prop extends RunTxt P K mg CP CM CN where
  rn : RunCls K CR
def sp_rinit (K : PySem.W.Frag) (CP CN CR : Addr) : Sp := fun vs H Q E => ∃ (y dy x : Addr) (ad : Nat → Addr) (mo pr bh fh : Addr) (R : RdM) (z : Str) (be : List (Int × Int)) (fi : List (Str × Int)) (la : Addr) (ls : List Int) (res : Nat ⊕ List Int) (c : Bool), vs = [.ref y, .ref x, .ref la] ∧ H y = some (.ins CR dy []) ∧
  ProgAt CP H x ad mo pr bh fh R z be fi ∧ (SqL K H la (ls.map V.int) ∨ SqT K H la (ls.map V.int)) ∧ ls.length < 100000 ∧ Sm2 R ∧ walkedL R be fi ls = some res ∧ (∀ op, res = .inr op → compL R be fi ls op = some c) ∧
  (∀ i, res = .inl i → ErrX CN "index" (.int i) H y E) ∧ (∀ op t o H', res = .inr op → (∀ b u, H b = some u → b ≠ y → H' b = some u) → RunAt K CR H' y x t o ls op c → Q .non H')
theorem ok_rinit {f : Addr} {fd : FuncData} (F : Fun K "__init__" "Run.__init__" s_Run___init__ f fd) (T : RunT2 P K mg CP CM CN CR) (c_walked_calls : Cal P w K mg base 3 "walked_calls" (sp_walked K CP CN)) (c_following_lines : Cal P w K mg base 2 "following_lines" (sp_foll K CP)) : FnOk P w K mg base (L2.CX P w) 4 f fd P_Run___init__ (sp_rinit K CP CN CR) := by
  refine F.okX sc_Run___init__ (fun vs H Q E h => ?_) (fun cdv A outer s H vs Q E hr h => ?_)
  · obtain ⟨y, dy, x, ad, mo, pr, bh, fh, R, z, be, fi, la, ls, res, c, rfl, _⟩ := h
    rfl
  · obtain ⟨y, dy, x, ad, mo, pr, bh, fh, R, z, be, fi, la, ls, res, c, rfl, hy, r, hla, hl, sm2, hw, hc, kE, kQ⟩ := h
    have Tr := T.pg
    have hu := hu_of hr
    have yx : y ≠ x := by
      obtain ⟨dx, hx⟩ := r.ob
      exact ne_of hy hx fun q => by cases q
    refine ⟨_, (pss_cons (ps_fld (pv 0) (pv 1) rfl)
      (pss_cons (ps_fld (pv 0) (pe_callTy (call_tuple_K (rfl : _ = K)) (by rfl) T.b_tuple (by decide +kernel) (pa_cons (pv 2) pa_nil)) rfl)
      (pss_cons (ps_fld (pv 0) (pe_cs c_walked_calls hr (by decide) rfl (fun σ => passAt (takes_of rfl rfl rfl rfl) σ) (pa_cons (pv 1) (pa_cons (pe_fld (pv 0) rfl) pa_nil))) rfl)
      (pss_one (ps_fld (pv 0) (pe_and (pe_cmpR op_gt (pe_callB call_len_seq (by rfl) T.b_len (by decide +kernel) (pa_cons (pe_fld (pv 0) rfl) pa_nil)) pe_int (nomark _)) (pe_one (pe_cmpR (op_eqD hr.units) (pe_cc c_following_lines hr (by decide) rfl (pa_cons (pv 1) (pa_cons (pe_ix ix_tup (pe_fld (pv 0) rfl) pe_neg1 (fun _ _ => rfl)) (pa_cons (pe_fld (pv 0) rfl) pa_nil)))) (pe_tup pa_nil) (nomark _)))) rfl))))), ?_⟩
    show tSeq _ _ _ [some (V.ref y), some (V.ref x), some (V.ref la)] H
    have xy : x ≠ y := Ne.symm yx
    have i0 : NwI CR dy H H y [] := ⟨hy, fun _ _ e _ => e⟩
    walk_at "rd"
    refine i0.put T.rn.cl (T.rn.na _ (by decide +kernel)) (Nat.le_of_ble_eq_true rfl) fun H1 i1 k1 => ?_
    walk_at "rd"
    refine x_tupA (hla.elim (fun h => .inl (MP.SqL.fr h hy i1.fr)) fun h => .inr (MP.SqT.fr h hy i1.fr)) fun t H2 s2 ht2 => ?_
    have i2 := i1.same s2
    walk_at "rd"
    refine i2.put T.rn.cl (T.rn.na _ (by decide +kernel)) (Nat.le_of_ble_eq_true rfl) fun H3 i3 k3 => ?_
    have ht3 := MP.SqT.fr ht2 i2.ob k3
    have r3 := MP.ProgAt.fr r hy xy i3.fr
    clear i0 i1 i2 k1 k3 s2 ht2 hla
    walk_at "rd"
    refine i3.rd T.rn.cl (T.rn.na _ (by decide +kernel)) rfl ?_
    walk_at "rd"
    refine ⟨x, ad, mo, pr, bh, fh, R, z, be, fi, t, ls, res, rfl, r3, ht3, hl, sm2, hw, fun i e d H' s e2 => kE i e d H' (fun b o h n => s _ _ (i3.fr b o h n)) e2, fun op e o H4 s4 eo4 => ?_⟩
    replace hc := hc op e
    have i4 := i3.same s4
    walk_at "rd"
    refine i4.put T.rn.cl (T.rn.na _ (by decide +kernel)) (Nat.le_of_ble_eq_true rfl) fun H5 i5 k5 => ?_
    have ht5 := MP.SqT.fr (ht3.ext s4) i4.ob k5
    have ho5 := k5 _ _ eo4 (ne_of eo4 i4.ob fun z => by cases z)
    have r5 := MP.ProgAt.fr r hy xy i5.fr
    clear i3 i4 k5 r3 ht3 s4 eo4
    walk_at "rd"
    refine i5.rd T.rn.cl (T.rn.na _ (by decide +kernel)) rfl ?_
    walk_at "rd"
    refine ⟨Or.inr ht5, ?_⟩
    walk_at "rd"
    rw [List.length_map]
    refine x_D (fun h1 => ?_) (fun h1 => ?_)
    · unfold compL at hc
      cases hla : ls.getLast? with
      | none =>
        rw [List.getLast?_eq_none_iff] at hla
        rw [hla] at h1
        exact absurd h1 (by decide)
      | some l =>
        rw [hla] at hc
        obtain ⟨xs, hf, rfl⟩ := Option.map_eq_some_iff.mp hc
        walk_at "rd"
        refine i5.rd T.rn.cl (T.rn.na _ (by decide +kernel)) rfl ?_
        walk_at "rd"
        refine x_ixT ht5 (at_last (by rw [List.getLast?_map, hla]; rfl)) ?_
        walk_at "rd"
        refine i5.rd T.rn.cl (T.rn.na _ (by decide +kernel)) rfl ?_
        walk_at "rd"
        refine ⟨x, ad, mo, pr, bh, fh, R, z, be, fi, l, o, op, xs, rfl, r5, Or.inr (SqT.of ho5), hf, sm2, fun t6 H6 s6 e6 => ?_⟩
        walk_at "rd"
        intro t7 n7
        have s7 := same_upd (o := .tup []) n7
        refine x_eqInts (ys := []) (SqT.of (s7 _ _ e6)) (SqT.of upd_same) ?_
        have i7 := i5.same (s6.trans s7)
        walk_at "rd"
        refine i7.put T.rn.cl (T.rn.na _ (by decide +kernel)) (Nat.le_of_ble_eq_true rfl) fun H8 i8 k8 => ?_
        have e8 : decide (xs = []) = xs.isEmpty := by cases xs <;> rfl
        rw [e8] at i8
        walk_at "rd"
        exact kQ op t o H8 e i8.fr ⟨⟨dy, i8.ob⟩, MP.SqT.fr (ht5.ext (s6.trans s7)) i7.ob k8, k8 _ _ (s7 _ _ (s6 _ _ ho5)) (ne_of (s7 _ _ (s6 _ _ ho5)) i7.ob fun z => by cases z)⟩
    · have hl0 : ls = [] := List.eq_nil_of_length_eq_zero (by omega)
      subst hl0
      cases hc
      walk_at "rd"
      refine i5.put T.rn.cl (T.rn.na _ (by decide +kernel)) (Nat.le_of_ble_eq_true rfl) fun H8 i8 k8 => ?_
      walk_at "rd"
      exact kQ op t o H8 e i8.fr ⟨⟨dy, i8.ob⟩, MP.SqT.fr ht5 i5.ob k8, k8 _ _ ho5 (ne_of ho5 i5.ob fun z => by cases z)⟩
def sp_last (K : PySem.W.Frag) (CP CM CR : Addr) : Sp := fun vs H Q E => ∃ (y x t o : Addr) (ls op : List Int) (c : Bool) (ad : Nat → Addr) (mo pr bh fh : Addr) (R : RdM) (z : Str) (be : List (Int × Int)) (fi : List (Str × Int)) (m : Str) (k : Nat), vs = [.ref y, .str m, .int k] ∧ RunAt K CR H y x t o ls op c ∧ ProgAt CP H x ad mo pr bh fh R z be fi ∧ ls.length < 100000 ∧
  (m ∈ R.modes.map (·.1) → ∀ H', Same H H' → Q (.str (lastM R m (ls.take k))) H') ∧ (m ∉ R.modes.map (·.1) → ErrD CM "mode" (.str m) H E)
theorem ok_last {f : Addr} {fd : FuncData} (F : Fun K "last" "Run.last" s_Run_last f fd) (T : RunT2 P K mg CP CM CN CR) (c_check_mode : Cal P w K mg base 3 "check_mode" (sp_check_mode CP CM)) (c_last_value : Cal P w K mg base 2 "last_value" (sp_last_value K CP)) : FnOk P w K mg base (L2.CX P w) 4 f fd P_Run_last (sp_last K CP CM CR) := by
  refine F.okX sc_Run_last (fun vs H Q E h => ?_) (fun cdv A outer s H vs Q E hr h => ?_)
  · obtain ⟨y, x, t, o, ls, op, c, ad, mo, pr, bh, fh, R, z, be, fi, m, k, rfl, _⟩ := h
    rfl
  · obtain ⟨y, x, t, o, ls, op, c, ad, mo, pr, bh, fh, R, z, be, fi, m, k, rfl, y1, r, hl, kq, kb⟩ := h
    have Tr := T.pg
    have Tn := T.rn
    have hu := hu_of hr
    refine ⟨_, (pss_cons (ps_expr (pe_cs c_check_mode hr (by decide) rfl (fun σ => passAt (takes_of rfl rfl rfl rfl) σ) (pa_cons (pe_fld (pv 0) rfl) (pa_cons (pv 1) pa_nil))))
      (pss_one (ps_ret (pe_cc c_last_value hr (by decide) rfl (pa_cons (pe_fld (pv 0) rfl) (pa_cons (pv 1) (pa_cons (pe_slice sl_tupA (pe_fld (pv 0) rfl) po_none (po_some (pv 2))) pa_nil))))))), ?_⟩
    show tSeq _ _ _ [some (V.ref y), some (V.str m), some (V.int k)] H
    walk_at "rd"
    refine ⟨x, ad, mo, pr, bh, fh, R, z, m, rfl, r.b, fun hm => ?_, kb⟩
    walk_at "rd"
    refine x_cutTo y1.hl fun p H1 s1 e1 => ?_
    walk_at "rd"
    exact ⟨x, ad, mo, pr, bh, fh, R, z, be, fi, m, p, ls.take k, rfl, r.same s1, e1, by rw [List.length_take]; omega, fun H2 s2 => kq hm _ (s1.trans s2)⟩
def sp_next (K : PySem.W.Frag) (CP CM CR : Addr) : Sp := fun vs H Q E => ∃ (y x t o : Addr) (ls op : List Int) (c : Bool) (ad : Nat → Addr) (mo pr bh fh : Addr) (R : RdM) (z : Str) (be : List (Int × Int)) (fi : List (Str × Int)) (m : Str) (k : Nat), vs = [.ref y, .str m, .int k] ∧ RunAt K CR H y x t o ls op c ∧ ProgAt CP H x ad mo pr bh fh R z be fi ∧
  (m ∈ R.modes.map (·.1) → ∀ H', Same H H' → Q (.str (nextM R m (ls.drop k))) H') ∧ (m ∉ R.modes.map (·.1) → ErrD CM "mode" (.str m) H E)
theorem ok_next {f : Addr} {fd : FuncData} (F : Fun K "next" "Run.next" s_Run_next f fd) (T : RunT2 P K mg CP CM CN CR) (c_check_mode : Cal P w K mg base 3 "check_mode" (sp_check_mode CP CM)) (c_item_at : Cal P w K mg base 1 "item_at" (sp_item_at CP)) : FnOk P w K mg base (L2.CX P w) 4 f fd P_Run_next (sp_next K CP CM CR) := by
  refine F.okX sc_Run_next (fun vs H Q E h => ?_) (fun cdv A outer s H vs Q E hr h => ?_)
  · obtain ⟨y, x, t, o, ls, op, c, ad, mo, pr, bh, fh, R, z, be, fi, m, k, rfl, _⟩ := h
    rfl
  · obtain ⟨y, x, t, o, ls, op, c, ad, mo, pr, bh, fh, R, z, be, fi, m, k, rfl, y1, r, kq, kb⟩ := h
    have Tr := T.pg
    have Tn := T.rn
    have hu := hu_of hr
    refine ⟨_, (pss_cons (ps_expr (pe_cs c_check_mode hr (by decide) rfl (fun σ => passAt (takes_of rfl rfl rfl rfl) σ) (pa_cons (pe_fld (pv 0) rfl) (pa_cons (pv 1) pa_nil))))
      (pss_cons (ps_for (passes_of rfl) rfl (pi_tup (pe_slice sl_tupA (pe_fld (pv 0) rfl) (po_some (pv 2)) po_none)) (pg_name (i := 3) sc_Run_next.nd rfl (Or.inl rfl))
      (pss_cons (ps_set (i := 4) sc_Run_next.nd rfl (Or.inl rfl) (pe_cc c_item_at hr (by decide) rfl (pa_cons (pe_fld (pv 0) rfl) (pa_cons (pv 1) (pa_cons (pv 3) pa_nil)))))
      (pss_one (ps_if (pt_cmpR op_notN (pv 4) pe_non (nomark _)) (pss_one (ps_ret (pe_ifExp (pt_cmpR op_eq (pv 4) pe_str (nomark _)) pe_str (pv 4)))) pss_nil))))
      (pss_one (ps_ret pe_str)))), ?_⟩
    show tSeq _ _ _ [some (V.ref y), some (V.str m), some (V.int k), none, none] H
    walk_at "rd"
    refine ⟨x, ad, mo, pr, bh, fh, R, z, m, rfl, r.b, fun hm => ?_, kb⟩
    replace kq := kq hm
    walk_at "rd"
    refine x_cutFrom y1.hl fun p H1 s1 e1 => ?_
    generalize ls.drop k = xs at e1 kq
    have r1 := r.same s1
    have y2 := y1.same s1
    walk_at "rd"
    refine ⟨⟨_, e1⟩, for_it (walk_tup (xs := xs.map V.int)) (fun i σ H' => Hold (∃ x3 x4 : Option V, σ = [some (V.ref y), some (V.str m), some (V.int k), x3, x4] ∧ H' = H1 ∧ ∀ j < i, ∀ y, xs[j]? = some y → itemM R m y = none)) ⟨none, none, rfl, rfl, fun j hj => absurd hj (Nat.not_lt_zero j)⟩ (fun i σ H' _ ⟨_, _, _, e, _⟩ => e ▸ e1) ?_ ?_⟩
    · rintro i v σ H' H'' hi ⟨x3, x4, rfl, rfl, hn⟩ ⟨rfl, hv⟩
      rw [List.getElem?_map] at hv
      obtain ⟨b, hb, rfl⟩ := Option.map_eq_some_iff.mp hv
      walk_at "rd"
      refine ⟨x, ad, mo, pr, bh, fh, R, z, be, fi, m, b, rfl, r1, ?_⟩
      cases hit : itemM R m b with
      | some v2 =>
        have e : nextM R m xs = if v2 = ("?" : Str) then ("-" : Str) else v2 := by
          unfold nextM
          rw [findSome_at hn hb hit]
        walk_at "rd"
        refine x_cT rfl ?_
        walk_at "rd"
        refine x_D (fun h1 => ?_) (fun h1 => ?_)
        · walk_at "rd"
          rw [if_pos (V.str.inj h1)] at e
          rw [← e]
          exact kq _ s1
        · walk_at "rd"
          rw [if_neg fun q => h1 (congrArg V.str q)] at e
          rw [← e]
          exact kq _ s1
      | none =>
        walk_at "rd"
        refine x_cF rfl ?_
        walk_at "rd"
        refine ⟨_, _, rfl, rfl, fun j hj y hy => ?_⟩
        rcases Nat.lt_succ_iff_lt_or_eq.mp hj with hj | rfl
        · exact hn j hj y hy
        · rw [hb] at hy
          cases hy
          exact hit
    · rintro σ H' ⟨x3, x4, rfl, rfl, hn⟩
      walk_at "rd"
      have e : nextM R m xs = ("-" : Str) := by
        unfold nextM
        rw [findSome_no fun j hj y hy => hn j (by rw [List.length_map]; exact hj) y hy]
      rw [← e]
      exact kq _ s1
def sp_need (K : PySem.W.Frag) (CP CM CR : Addr) : Sp := fun vs H Q E => ∃ (y x t o : Addr) (ls op : List Int) (c : Bool) (ad : Nat → Addr) (mo pr bh fh : Addr) (R : RdM) (z : Str) (be : List (Int × Int)) (fi : List (Str × Int)) (m : Str), vs = [.ref y, .str m] ∧ RunAt K CR H y x t o ls op c ∧ ProgAt CP H x ad mo pr bh fh R z be fi ∧
  (∀ w, look R.modes m = some w → (∀ l v, itemM R m l = some v → v ≠ ("?" : Str) → (look w.2 v).isSome = true) ∧ Q (.int (needL R m w.2 ls ((look R.begins m).getD ("?" : Str)) 0)) H) ∧ (m ∉ R.modes.map (·.1) → ErrD CM "mode" (.str m) H E)
theorem ok_need {f : Addr} {fd : FuncData} (F : Fun K "need" "Run.need" s_Run_need f fd) (T : RunT2 P K mg CP CM CN CR) (c_check_mode : Cal P w K mg base 3 "check_mode" (sp_check_mode CP CM)) (c_need_of : Cal P w K mg base 2 "need_of" (sp_need_of K CP)) : FnOk P w K mg base (L2.CX P w) 4 f fd P_Run_need (sp_need K CP CM CR) := by
  refine F.okX sc_Run_need (fun vs H Q E h => ?_) (fun cdv A outer s H vs Q E hr h => ?_)
  · obtain ⟨y, x, t, o, ls, op, c, ad, mo, pr, bh, fh, R, z, be, fi, m, rfl, _⟩ := h
    rfl
  · obtain ⟨y, x, t, o, ls, op, c, ad, mo, pr, bh, fh, R, z, be, fi, m, rfl, y1, r, kq, kb⟩ := h
    have Tr := T.pg
    have Tn := T.rn
    have hu := hu_of hr
    refine ⟨_, (pss_cons (ps_expr (pe_cs c_check_mode hr (by decide) rfl (fun σ => passAt (takes_of rfl rfl rfl rfl) σ) (pa_cons (pe_fld (pv 0) rfl) (pa_cons (pv 1) pa_nil))))
      (pss_one (ps_ret (pe_cc c_need_of hr (by decide) rfl (pa_cons (pe_fld (pv 0) rfl) (pa_cons (pv 1) (pa_cons (pe_fld (pv 0) rfl) pa_nil))))))), ?_⟩
    show tSeq _ _ _ [some (V.ref y), some (V.str m)] H
    walk_at "rd"
    refine ⟨x, ad, mo, pr, bh, fh, R, z, m, rfl, r.b, fun hm => ?_, kb⟩
    obtain ⟨wt, hwt⟩ := look_mode hm
    obtain ⟨k1, k2⟩ := kq wt hwt
    walk_at "rd"
    exact ⟨x, ad, mo, pr, bh, fh, R, z, be, fi, m, t, ls, wt, rfl, r, y1.hl, hwt, k1, k2⟩
def sp_len (K : PySem.W.Frag) (CR : Addr) : Sp := fun vs H Q _ => ∃ (y x t o : Addr) (ls op : List Int) (c : Bool), vs = [.ref y] ∧ RunAt K CR H y x t o ls op c ∧ Q (.int ls.length) H
theorem ok_len {f : Addr} {fd : FuncData} (F : Fun K "__len__" "Run.__len__" s_Run___len__ f fd) (T : RunT2 P K mg CP CM CN CR) : FnOk P w K mg base CX0 1 f fd P_Run___len__ (sp_len K CR) := by
  refine F.ok sc_Run___len__ (fun vs H Q E h => ?_) (fun cdv A outer s H vs Q E hr h => ?_)
  · obtain ⟨y, x, t, o, ls, op, c, rfl, _⟩ := h
    rfl
  · obtain ⟨y, x, t, o, ls, op, c, rfl, y1, k⟩ := h
    have Tn := T.rn
    refine ⟨_, (pss_one (ps_ret (pe_callB call_len_seq (by rfl) T.b_len (by decide +kernel) (pa_cons (pe_fld (pv 0) rfl) pa_nil)))), ?_⟩
    show tRet _ _ [some (V.ref y)] H
    walk_at "rd"
    refine ⟨Or.inr y1.hl, ?_⟩
    rw [List.length_map]
    exact k
end
end MP
end
section
open PySem L2 MPX MP
local macro_rules | `(tactic| walk_at "rd1") => `(tactic| first
  | with_reducible refine x_seq ?_
  | with_reducible refine x_next ?_
  | with_reducible refine x_ret ?_
  | with_reducible refine x_retN ?_
  | with_reducible refine x_ifs ?_
  | with_reducible refine x_asg ?_
  | with_reducible refine x_drop ?_
  | with_reducible refine x_name ?_
  | ((with_reducible refine' x_var ?vv ?_); (case vv => exact rfl))
  | with_reducible refine x_c ?_
  | with_reducible refine x_op ?_
  | with_reducible refine x_un ?_
  | with_reducible refine x_test ?_
  | with_reducible refine x_tB ?_
  | with_reducible refine x_and ?_
  | with_reducible refine x_or ?_
  | with_reducible refine x_not ?_
  | with_reducible refine x_andV ?_
  | with_reducible refine x_orV ?_
  | with_reducible refine x_notV ?_
  | with_reducible refine x_if ?_
  | with_reducible refine x_nil ?_
  | with_reducible refine x_cons ?_
  | with_reducible refine x_tup ?_
  | with_reducible refine x_lst ?_
  | with_reducible refine x_cb ?_
  | with_reducible refine x_call ?_
  | with_reducible refine x_callS ?_
  | with_reducible refine x_callP ?_
  | with_reducible refine x_mk0 ?_
  | with_reducible refine x_mk1 ?_
  | with_reducible refine x_mk2 ?_
  | with_reducible refine x_make ?_
  | with_reducible refine x_sfld ?_
  | with_reducible refine x_din ?_
  | with_reducible refine x_dnin ?_
  | with_reducible refine x_fldS ?_
  | with_reducible refine x_sl3 ?_
  | ((with_reducible refine' r_pg ?vr ?vt ?vm ?vl ?vq); (case vr => (with_reducible assumption)); (case vt => assumption); (case vm => decide +kernel); (case vl => exact rfl))
  | with_reducible refine x_m0 ?_
  | with_reducible refine x_m1 ?_
  | with_reducible refine x_bm0 ?_
  | with_reducible refine x_bm ?_
  | with_reducible refine x_par ?_
  | with_reducible refine x_ilist ?_
  | with_reducible refine x_itup ?_
  | with_reducible refine x_istr ?_
  | ((with_reducible show tLc _ _ _ _ _ _ _ _); unfold tLc)
  | ((with_reducible show tFor _ _ _ _ _ _); unfold tFor)
  | ((with_reducible refine' x_eq ?vv ?_); (case vv => exact rfl))
  | ((with_reducible refine' x_ne ?vv ?_); (case vv => exact rfl))
  | with_reducible refine x_rI0 ?_
  | with_reducible refine x_dgetR ?_
  | with_reducible refine x_dputR ?_
  | with_reducible refine x_dnew ?_
  | with_reducible refine x_dget1 ?_
  | with_reducible refine x_dget2 ?_
  | with_reducible refine x_sl ?_
  | with_reducible refine x_nopart ?_
  | with_reducible refine x_part ?_
  | ((with_reducible refine' x_slL ?vv ?_); (case vv => (with_reducible assumption)))
  | with_reducible refine x_disp ?_
  | with_reducible refine x_pcons ?_
  | with_reducible refine x_pnil ?_
  | ((with_reducible refine' x_mod ?vv ?_); (case vv => omega); intro r er hr0 hr1; (try clear er))
  | ((with_reducible refine' x_rI ?vv ?_); (case vv => walk_at "sc"))
  | (with_reducible refine Or.inl (Exists.intro _ (And.intro rfl ?_)))
  | with_reducible refine x_T ?_
  | with_reducible refine x_F ?_
  | ((with_reducible show Exists (α := V) _); (with_reducible apply Exists.intro))
  | ((with_reducible show Exists (α := Bool) _); (with_reducible apply Exists.intro))
  | ((with_reducible show Exists (α := Nat) _); (with_reducible apply Exists.intro))
  | ((with_reducible show Exists (α := Int) _); (with_reducible apply Exists.intro))
  | ((with_reducible show Exists (α := List V) _); (with_reducible apply Exists.intro))
  | ((with_reducible show Exists (α := PySem.Str) _); (with_reducible apply Exists.intro))
  | ((with_reducible show Exists (α := Option V) _); (with_reducible apply Exists.intro))
  | ((with_reducible show Exists (α := Option Int) _); (with_reducible apply Exists.intro))
  | ((with_reducible show Exists (α := List (Key × V)) _); (with_reducible apply Exists.intro))
  | refine And.intro rfl ?_
  | ((with_reducible refine And.intro ?vv ?_); (case vv => (first | (with_reducible assumption) | (show _ ≤ sizeLine; decide) | exact len_ok rfl)))
  | (refine And.intro (Exists.intro _ rfl) ?_))
local macro_rules | `(tactic| walk_at "sc") => `(tactic| first
  | (with_reducible assumption)
  | exact divW (by omega) (by omega)
  | exact mulW (by omega) (by omega)
  | exact Or.inl ⟨by omega, by omega⟩
  | exact Or.inr ⟨by omega, by omega⟩
  | (show (_ : Int) ≠ 0; omega)
  | exact ⟨by decide, by decide, by decide⟩
  | decide)
local macro_rules | `(tactic| walk_at "rd") => `(tactic| repeat walk_at "rd1")
namespace MP
open PySem L2 StX
section
variable {P : Program} {w : World} {K : PySem.W.Frag} {mg : Str → Option Value} {base : Heap} {ts : Nat → Tok} {CP CM CN CR CO : Addr}
abbrev s_sum_of : Stmt := topS 54
abbrev N_sum_of : List Str := ["numbers", "total", "number"]
abbrev P_sum_of : List Str := ["numbers"]
theorem sc_sum_of : FnScope N_sum_of P_sum_of (defScope s_sum_of) := ⟨rfl, rfl, rfl, by decide +kernel, rfl, by decide +kernel, by decide +kernel⟩
abbrev s_least_of : Stmt := topS 53
abbrev N_least_of : List Str := ["numbers", "known", "number"]
abbrev P_least_of : List Str := ["numbers"]
theorem sc_least_of : FnScope N_least_of P_least_of (defScope s_least_of) := ⟨rfl, rfl, rfl, by decide +kernel, rfl, by decide +kernel, by decide +kernel⟩
abbrev s_return_length : Stmt := topS 55
abbrev N_return_length : List Str := ["program", "returns", "line", "kind", "inner", "other"]
abbrev P_return_length : List Str := ["program", "returns", "line"]
theorem sc_return_length : FnScope N_return_length P_return_length (defScope s_return_length) := ⟨rfl, rfl, rfl, by decide +kernel, rfl, by decide +kernel, by decide +kernel⟩
abbrev s_stop_length : Stmt := topS 56
abbrev N_stop_length : List Str := ["program", "returns", "stops", "line", "kind", "first", "behind", "inside", "other"]
abbrev P_stop_length : List Str := ["program", "returns", "stops", "line"]
theorem sc_stop_length : FnScope N_stop_length P_stop_length (defScope s_stop_length) := ⟨rfl, rfl, rfl, by decide +kernel, rfl, by decide +kernel, by decide +kernel⟩
structure ShortTxt (P : Program) (K : PySem.W.Frag) (mg : Str → Option Value) (CP CM CN CR CO : Addr) : Prop extends RunT2 P K mg CP CM CN CR where
  b_min : mg "min" = none
  b_int : mg "int" = none
  e_NoRun : Exc0 P K mg "NoRun" CO
def sp_sum (K : PySem.W.Frag) : Sp := fun vs H Q _ => ∃ (a : Addr) (ns : List (Option Int)), vs = [.ref a] ∧ SqL K H a (ns.map optI) ∧ Q (optI (sumL ns 0)) H
theorem ok_sum_of {f : Addr} {fd : FuncData} (F : Fun K "sum_of" "sum_of" s_sum_of f fd) : FnOk P w K mg base CX0 1 f fd P_sum_of (sp_sum K) := by
  refine F.ok sc_sum_of (fun vs H Q E h => ?_) (fun cdv A outer s H vs Q E hr h => ?_)
  · obtain ⟨a, ns, rfl, _⟩ := h
    rfl
  · obtain ⟨a, ns, rfl, ha, k⟩ := h
    refine ⟨_, (pss_cons (ps_set (i := 1) sc_sum_of.nd rfl (Or.inl rfl) pe_int)
      (pss_cons (ps_for PassesOwn.never rfl (pi_list (pv 0)) (pg_name (i := 2) sc_sum_of.nd rfl (Or.inl rfl))
      (pss_cons (ps_if (pt_cmpR op_isN (pv 2) pe_non (nomark _)) (pss_one (ps_ret pe_non)) pss_nil)
      (pss_one (ps_set (i := 1) sc_sum_of.nd rfl (Or.inl rfl) (pe_op op_add (pv 1) (pv 2))))))
      (pss_one (ps_ret (pv 1))))), ?_⟩
    show tSeq _ _ _ [some (V.ref a), none, none] H
    walk_at "rd"
    refine ⟨⟨_, ha⟩, for_it (walk_list (xs := ns.map optI)) (fun i σ H' => Hold (∃ (tot : Int) (x2 : Option V), σ = [some (V.ref a), some (V.int tot), x2] ∧ H' = H ∧ sumL ns 0 = sumL (ns.drop i) tot)) ⟨0, none, rfl, rfl, rfl⟩ (fun i σ H' _ ⟨_, _, _, e, _⟩ => e ▸ ha) ?_ ?_⟩
    · rintro i v σ H' H'' hi ⟨tot, x2, rfl, rfl, hn⟩ ⟨rfl, hv⟩
      rw [List.getElem?_map] at hv
      obtain ⟨b, hb, rfl⟩ := Option.map_eq_some_iff.mp hv
      rw [drop_at hb] at hn
      walk_at "rd"
      cases b with
      | none =>
        refine x_cT rfl ?_
        walk_at "rd"
        have e : sumL ns 0 = none := by rw [hn]; rfl
        rw [e] at k
        exact k
      | some n =>
        refine x_cF rfl ?_
        walk_at "rd"
        refine ⟨tot, n, rfl, rfl, ?_⟩
        walk_at "rd"
        exact ⟨_, _, rfl, rfl, hn⟩
    · rintro σ H' ⟨tot, x2, rfl, rfl, hn⟩
      walk_at "rd"
      rw [List.length_map, List.drop_of_length_le (Nat.le_refl _)] at hn
      have e : sumL ns 0 = some tot := hn
      rw [e] at k
      exact k
def sp_least (K : PySem.W.Frag) : Sp := fun vs H Q _ => ∃ (a : Addr) (ns : List (Option Int)), vs = [.ref a] ∧ SqL K H a (ns.map optI) ∧ ns.length < 10000 ∧ ∀ H', Same H H' → Q (optI (leastL ns)) H'
theorem ok_least_of {f : Addr} {fd : FuncData} (F : Fun K "least_of" "least_of" s_least_of f fd) (T : ShortTxt P K mg CP CM CN CR CO) : FnOk P w K mg base CX0 1 f fd P_least_of (sp_least K) := by
  refine F.ok sc_least_of (fun vs H Q E h => ?_) (fun cdv A outer s H vs Q E hr h => ?_)
  · obtain ⟨a, ns, rfl, _⟩ := h
    rfl
  · obtain ⟨a, ns, rfl, ha, hl, k⟩ := h
    have hu := hu_of hr
    refine ⟨_, (pss_cons (ps_setLc (i := 1) (own := [("number", 2)]) (g := gName 2) rfl sc_least_of.nd rfl rfl (sw_true rfl rfl rfl (by decide +kernel)) (pi_list (pv 0)) (blkOk_by (own := [("number", 2)]) (N := N_least_of) (sc := defScope s_least_of) (by decide +kernel)) (fun _ _ _ _ _ => (pg_name (i := 2) sc_least_of.nd rfl (Or.inl rfl))) (fun _ _ _ _ _ => (pts_one (pt_cmpR op_notN (pv 2) pe_non (nomark _)))) (fun _ _ _ _ _ => (pv 2)))
      (pss_one (ps_ret (pe_ifExp (pt_cmpR (op_neE hr.units) (pv 1) (pe_lst pa_nil) (nomark _)) (pe_callB (cr_min rfl) (by rfl) T.b_min (by decide +kernel) (pa_cons (pe_lc (own := [("number", 2)]) (g := gName 2) (tt := tYes) rfl sc_least_of.nd (pi_list (pv 1)) (blkOk_by (own := [("number", 2)]) (N := N_least_of) (sc := defScope s_least_of) (by decide +kernel)) (fun _ _ _ _ _ => (pg_name (i := 2) sc_least_of.nd rfl (Or.inl rfl))) (fun _ _ _ _ _ => pts_nil) (fun _ _ _ _ _ => (pe_callTy call_int1 (by rfl) T.b_int (by decide +kernel) (pa_cons (pv 2) pa_nil)))) pa_nil)) pe_non)))), ?_⟩
    show tSeq _ _ _ [some (V.ref a), none, none] H
    walk_at "rd"
    refine ⟨⟨_, ha⟩, fun D hD => ?_⟩
    refine lc_it (walk_list (xs := ns.map optI)) (fun i H3 => Hold (H3 = upd H D (.lst (((ns.take i).filterMap id).map V.int)))) ⟨rfl⟩ (fun i H3 _ ⟨e⟩ => by rw [e]; exact (same_upd hD).seq ha) ?_ ?_
    · rintro i v H3 H4 hi ⟨rfl⟩ ⟨rfl, hv⟩
      rw [List.getElem?_map] at hv
      obtain ⟨b, hb, rfl⟩ := Option.map_eq_some_iff.mp hv
      walk_at "rd"
      cases b with
      | none =>
        refine x_cF rfl ?_
        refine ⟨?_⟩
        rw [List.take_add_one, hb, List.filterMap_append]
        simp
      | some n =>
        refine x_cT rfl ?_
        walk_at "rd"
        refine ⟨upd_same, ?_, ⟨?_⟩⟩
        · rw [List.length_map]
          have h1 := List.length_filterMap_le id (ns.take i)
          rw [List.length_take] at h1
          have := big5
          omega
        · rw [upd_upd, List.take_add_one, hb, List.filterMap_append, List.map_append]
          rfl
    · rintro H3 ⟨rfl⟩
      have e1 : ns.take (ns.map optI).length = ns := by rw [List.length_map, List.take_length]
      rw [e1]
      generalize hk : ns.filterMap id = ms
      have hm : leastL ns = leastI ms := by unfold leastL; rw [hk]
      have hml : ms.length < 10000 := by
        have := List.length_filterMap_le id ns
        rw [hk] at this
        omega
      rw [hm] at k
      have s1 := same_upd (o := .lst (ms.map V.int)) hD
      have eD : upd H D (.lst (ms.map V.int)) D = _ := upd_same
      generalize upd H D (.lst (ms.map V.int)) = H1 at s1 eD ⊢
      walk_at "rd"
      intro el nel
      have s2 := same_upd (o := .lst []) nel
      refine x_neE (SqL.of (s2 _ _ eD)) upd_same ?_
      rw [List.isEmpty_map]
      replace eD := s2 _ _ eD
      replace s1 := s1.trans s2
      generalize upd H1 el (.lst []) = H2 at s1 eD ⊢
      walk_at "rd"
      refine x_NB (fun h1 => ?_) (fun h1 => ?_)
      · walk_at "rd"
        refine ⟨⟨_, SqL.of eD⟩, fun D2 hD2 => ?_⟩
        refine lc_it (walk_list (xs := ms.map V.int)) (fun i H3 => Hold (H3 = upd H2 D2 (.lst ((ms.take i).map V.int)))) ⟨rfl⟩ (fun i H3 _ ⟨e⟩ => by rw [e]; exact SqL.of (upd_new eD hD2)) ?_ ?_
        · rintro i v H3 H4 hi ⟨rfl⟩ ⟨rfl, hv⟩
          rw [List.getElem?_map] at hv
          obtain ⟨b, hb, rfl⟩ := Option.map_eq_some_iff.mp hv
          walk_at "rd"
          unfold tYes
          refine x_T ?_
          walk_at "rd"
          refine ⟨upd_same, ?_, ⟨?_⟩⟩
          · rw [List.length_map, List.length_take]
            have := big5
            omega
          · rw [upd_upd, List.take_add_one, hb, List.map_append]
            rfl
        · rintro H3 ⟨rfl⟩
          have e2 : ms.take (ms.map V.int).length = ms := by rw [List.length_map, List.take_length]
          rw [e2]
          walk_at "rd"
          refine ⟨D2, ms, rfl, SqL.of upd_same, ?_, fun m hm1 hm2 => ?_⟩
          · cases ms with
            | nil => cases h1
            | cons a r => exact Nat.succ_pos _
          · rw [leastI_is hm1 hm2] at k
            exact k _ (s1.trans (same_upd hD2))
      · walk_at "rd"
        have e3 : ms = [] := List.isEmpty_iff.mp h1
        rw [e3] at k
        exact k _ s1
end
end MP
end
section
open PySem L2 MPX MP
local macro_rules | `(tactic| walk_at "rd1") => `(tactic| first
  | with_reducible refine x_seq ?_
  | with_reducible refine x_next ?_
  | with_reducible refine x_ret ?_
  | with_reducible refine x_retN ?_
  | with_reducible refine x_ifs ?_
  | with_reducible refine x_asg ?_
  | with_reducible refine x_drop ?_
  | with_reducible refine x_name ?_
  | ((with_reducible refine' x_var ?vv ?_); (case vv => exact rfl))
  | with_reducible refine x_c ?_
  | with_reducible refine x_op ?_
  | with_reducible refine x_un ?_
  | with_reducible refine x_test ?_
  | with_reducible refine x_tB ?_
  | with_reducible refine x_and ?_
  | with_reducible refine x_or ?_
  | with_reducible refine x_not ?_
  | with_reducible refine x_andV ?_
  | with_reducible refine x_orV ?_
  | with_reducible refine x_notV ?_
  | with_reducible refine x_if ?_
  | with_reducible refine x_nil ?_
  | with_reducible refine x_cons ?_
  | with_reducible refine x_tup ?_
  | with_reducible refine x_lst ?_
  | with_reducible refine x_cb ?_
  | with_reducible refine x_call ?_
  | with_reducible refine x_callS ?_
  | with_reducible refine x_callP ?_
  | with_reducible refine x_mk0 ?_
  | with_reducible refine x_mk1 ?_
  | with_reducible refine x_mk2 ?_
  | with_reducible refine x_make ?_
  | with_reducible refine x_sfld ?_
  | with_reducible refine x_din ?_
  | with_reducible refine x_dnin ?_
  | with_reducible refine x_fldS ?_
  | with_reducible refine x_sl3 ?_
  | ((with_reducible refine' r_pg ?vr ?vt ?vm ?vl ?vq); (case vr => (with_reducible assumption)); (case vt => assumption); (case vm => decide +kernel); (case vl => exact rfl))
  | with_reducible refine x_m0 ?_
  | with_reducible refine x_m1 ?_
  | with_reducible refine x_bm0 ?_
  | with_reducible refine x_bm ?_
  | with_reducible refine x_par ?_
  | with_reducible refine x_ilist ?_
  | with_reducible refine x_itup ?_
  | with_reducible refine x_istr ?_
  | ((with_reducible show tLc _ _ _ _ _ _ _ _); unfold tLc)
  | ((with_reducible show tFor _ _ _ _ _ _); unfold tFor)
  | ((with_reducible refine' x_eq ?vv ?_); (case vv => exact rfl))
  | ((with_reducible refine' x_ne ?vv ?_); (case vv => exact rfl))
  | with_reducible refine x_rI0 ?_
  | with_reducible refine x_dgetR ?_
  | with_reducible refine x_dputR ?_
  | with_reducible refine x_dnew ?_
  | with_reducible refine x_dget1 ?_
  | with_reducible refine x_dget2 ?_
  | with_reducible refine x_sl ?_
  | with_reducible refine x_nopart ?_
  | with_reducible refine x_part ?_
  | ((with_reducible refine' x_slL ?vv ?_); (case vv => (with_reducible assumption)))
  | with_reducible refine x_disp ?_
  | with_reducible refine x_pcons ?_
  | with_reducible refine x_pnil ?_
  | ((with_reducible refine' x_mod ?vv ?_); (case vv => omega); intro r er hr0 hr1; (try clear er))
  | ((with_reducible refine' x_rI ?vv ?_); (case vv => walk_at "sc"))
  | (with_reducible refine Or.inl (Exists.intro _ (And.intro rfl ?_)))
  | with_reducible refine x_T ?_
  | with_reducible refine x_F ?_
  | ((with_reducible show Exists (α := V) _); (with_reducible apply Exists.intro))
  | ((with_reducible show Exists (α := Bool) _); (with_reducible apply Exists.intro))
  | ((with_reducible show Exists (α := Nat) _); (with_reducible apply Exists.intro))
  | ((with_reducible show Exists (α := Int) _); (with_reducible apply Exists.intro))
  | ((with_reducible show Exists (α := List V) _); (with_reducible apply Exists.intro))
  | ((with_reducible show Exists (α := PySem.Str) _); (with_reducible apply Exists.intro))
  | ((with_reducible show Exists (α := Option V) _); (with_reducible apply Exists.intro))
  | ((with_reducible show Exists (α := Option Int) _); (with_reducible apply Exists.intro))
  | ((with_reducible show Exists (α := List (Key × V)) _); (with_reducible apply Exists.intro))
  | refine And.intro rfl ?_
  | ((with_reducible refine And.intro ?vv ?_); (case vv => (first | (with_reducible assumption) | (show _ ≤ sizeLine; decide) | exact len_ok rfl)))
  | (refine And.intro (Exists.intro _ rfl) ?_))
local macro_rules | `(tactic| walk_at "sc") => `(tactic| first
  | (with_reducible assumption)
  | exact divW (by omega) (by omega)
  | exact mulW (by omega) (by omega)
  | exact Or.inl ⟨by omega, by omega⟩
  | exact Or.inr ⟨by omega, by omega⟩
  | (show (_ : Int) ≠ 0; omega)
  | exact ⟨by decide, by decide, by decide⟩
  | decide)
local macro_rules | `(tactic| walk_at "rd") => `(tactic| repeat walk_at "rd1")
namespace MP
open PySem L2 StX
section
variable {P : Program} {w : World} {K : PySem.W.Frag} {mg : Str → Option Value} {base : Heap} {ts : Nat → Tok} {CP CM CN CR CO : Addr}
theorem x_list {σ : L2.St} {H : Hp} {Q : VK} {t : TA} (h : t σ H fun xs H1 => xs.length ≤ sizeLine ∧ ∀ p, H1 p = none → Q (.ref p) (upd H1 p (.lst xs))) : tLst t σ H Q := h
/-- the comprehension of a table's answers -/
theorem lc_gets {K : PySem.W.Frag} {a d D : Addr} {xs : List Int} {tb : List (Int × Int)} {H : Hp} {ta : TE} {i : Nat} {σ : L2.St} {Qd : Hp → Prop} (ha : SqT K H a (xs.map V.int)) (hd : H d = some (.dK (kI V.int tb))) (hD : H D = none) (hl : xs.length < 10000)
    (hw : ∀ v, wipe ((wipe σ [i]).set i (some v)) [i] = wipe σ [i] ∧ ((wipe σ [i]).set i (some v))[i]? = some (some v)) (hv : ∀ (v : V) (H' : Hp) (Q : VK), Q (.ref d) H' → ta ((wipe σ [i]).set i (some v)) H' Q) (q : Qd (upd H D (.lst ((xs.map (look tb)).map optI)))) :
    ∃ W : Nat → Nat → Hp → Prop, (∃ m, W 0 m (upd H D (.lst []))) ∧ ∀ j m H, W j m H →
      ((Itt K a).stop j H ∧ Qd H) ∨ ((Itt K a).go j H ∧ ∃ Nx : Hp → Prop, (∀ H', Nx H' → ∃ m', m' < m ∧ W (j + 1) m' H') ∧ ∀ x H', (Itt K a).yld j H x H' → gName i x (wipe σ [i]) H' fun σ2 H2 => wipe σ2 [i] = wipe σ [i] ∧ tYes σ2 H2 fun b H3 =>
        if b = true then tDGet1 ta (tVar i) σ2 H3 fun y H4 => ∃ acc, H4 D = some (.lst acc) ∧ acc.length < sizeLine ∧ Nx (upd H4 D (.lst (acc ++ [y]))) else Nx H3) := by
  refine lc_it (walk_tup (xs := xs.map V.int)) (fun j H3 => H3 = upd H D (.lst (((xs.take j).map (look tb)).map optI))) rfl (fun j H3 _ e => by rw [e]; exact ha.ext (same_upd hD)) ?_ ?_
  · rintro j x H3 H4 hj rfl ⟨rfl, hx⟩
    rw [List.getElem?_map] at hx
    obtain ⟨b, hb, rfl⟩ := Option.map_eq_some_iff.mp hx
    refine ⟨(hw _).1, ?_⟩
    unfold tYes
    refine x_T ?_
    refine hv _ _ _ ⟨d, rfl, .inl ⟨_, .inl (upd_new hd hD)⟩, .int b, (hw _).2, _, dget_i (upd_new hd hD) (valV_kI V.int b tb), _, upd_same, ?_, ?_⟩
    · rw [List.length_map, List.length_map, List.length_take]
      have := big5
      omega
    · rw [upd_upd, look_optI, List.take_add_one, hb, List.map_append, List.map_append]
      rfl
  · rintro H3 rfl
    rw [List.length_map, List.take_length]
    exact q
def sp_ret (CP : Addr) : Sp := fun vs H Q _ => ∃ (x : Addr) (ad : Nat → Addr) (mo pr bh fh : Addr) (R : RdM) (z : Str) (be : List (Int × Int)) (fi : List (Str × Int)) (d : Addr) (rs : List (Int × Int)) (l : Int) (res : Option Int), vs = [.ref x, .ref d, .int l] ∧ ProgAt CP H x ad mo pr bh fh R z be fi ∧ H d = some (.dK (kI V.int rs)) ∧ Sm2 R ∧ retL R be fi rs l = some res ∧ ∀ H', Same H H' → Q (optI res) H'
theorem ok_return_length {f : Addr} {fd : FuncData} (F : Fun K "return_length" "return_length" s_return_length f fd) (T : ShortTxt P K mg CP CM CN CR CO) (c_step_lines : Cal P w K mg base 1 "step_lines" (sp_step CP)) (c_sum_of : Cal P w K mg base 1 "sum_of" (sp_sum K)) (c_least_of : Cal P w K mg base 1 "least_of" (sp_least K)) : FnOk P w K mg base (L2.CX P w) 2 f fd P_return_length (sp_ret CP) := by
  refine F.okX sc_return_length (fun vs H Q E h => ?_) (fun cdv A outer s H vs Q E hr h => ?_)
  · obtain ⟨x, ad, mo, pr, bh, fh, R, z, be, fi, d, rs, l, res, rfl, _⟩ := h
    rfl
  · obtain ⟨x, ad, mo, pr, bh, fh, R, z, be, fi, d, rs, l, res, rfl, r, hd, sm2, hs, k⟩ := h
    have Tr := T.pg
    have hu := hu_of hr
    unfold retL at hs
    obtain ⟨kd, hk, hs⟩ := Option.bind_eq_some_iff.mp hs
    refine ⟨_, (pss_cons (ps_set (i := 3) sc_return_length.nd rfl (Or.inl rfl) (pe_dget hu (pe_fld (pv 0) rfl) (pv 2) (fun _ _ => rfl)))
      (pss_cons (ps_if (PW.pt (pw_or (pt_cmpR op_eq (pv 3) pe_str (nomark _)) (pw_or1 (PW.pt (pw_and (pt_cmpR op_eq (pv 3) pe_str (nomark _)) (pw_and1 (pt_cmp (pc_dnotin hu (pv 2) (pe_fld (pv 0) rfl))))))))) (pss_one (ps_ret pe_int)) pss_nil)
      (pss_cons (ps_if (pt_cmpR op_eq (pv 3) pe_str (nomark _)) (pss_cons (ps_set (i := 4) sc_return_length.nd rfl (Or.inl rfl) (pe_dget1 hu (pv 1) (pe_dget hu (pe_fld (pv 0) rfl) (pe_dget hu (pe_fld (pv 0) rfl) (pv 2) (fun _ _ => rfl)) (fun _ _ => rfl)) ⟨rfl, rfl, rfl, rfl⟩))
      (pss_one (ps_ret (pe_cc c_sum_of hr (by decide) rfl (pa_cons (pe_lst (pa_cons pe_int (pa_cons (pv 4) (pa_cons (pe_dget1 hu (pv 1) (pe_dget hu (pe_fld (pv 0) rfl) (pv 2) (fun _ _ => rfl)) ⟨rfl, rfl, rfl, rfl⟩) pa_nil)))) pa_nil))))) pss_nil)
      (pss_one (ps_ret (pe_cc c_sum_of hr (by decide) rfl (pa_cons (pe_lst (pa_cons pe_int (pa_cons (pe_cc c_least_of hr (by decide) rfl (pa_cons (pe_lc (own := [("other", 5)]) (g := gName 5) (tt := tYes) rfl sc_return_length.nd (pi_tup (pe_cc c_step_lines hr (by decide) rfl (pa_cons (pv 0) (pa_cons (pv 2) pa_nil)))) (blkOk_by (own := [("other", 5)]) (N := N_return_length) (sc := defScope s_return_length) (by decide +kernel)) (fun _ _ _ _ _ => (pg_name (i := 5) sc_return_length.nd rfl (Or.inl rfl))) (fun _ _ _ _ _ => pts_nil) (fun _ _ _ _ _ => (pe_dget1 hu (pv 1) (pv 5) ⟨rfl, rfl, rfl, rfl⟩))) pa_nil)) pa_nil))) pa_nil))))))), ?_⟩
    show tSeq _ _ _ [some (V.ref x), some (V.ref d), some (V.int l), none, none, none] H
    walk_at "rd"
    refine r_getI r.t3 hk ?_
    walk_at "rd"
    refine x_D (fun h3 => ?_) (fun h3 => ?_)
    · have hib : isBack R kd l = true := by unfold isBack; rw [decide_eq_true (V.str.inj h3)]; rfl
      rw [if_pos hib] at hs
      cases hs
      walk_at "rd"
      exact k H fun _ _ e => e
    have h3' : ¬ kd = ("back" : Str) := fun q => h3 (congrArg V.str q)
    walk_at "rd"
    refine x_D (fun h4 => ?_) (fun h4 => ?_)
    · walk_at "rd"
      refine r_dninI r.t5 ?_
      walk_at "rd"
      refine x_NB (fun h5 => ?_) (fun h5 => ?_)
      · have hib : isBack R kd l = true := by unfold isBack; rw [decide_eq_true (V.str.inj h4), h5, Bool.or_eq_true]; exact .inr rfl
        rw [if_pos hib] at hs
        cases hs
        walk_at "rd"
        exact k H fun _ _ e => e
      · have hib : isBack R kd l = false := by unfold isBack; rw [decide_eq_false h3', h5, Bool.not_true, Bool.and_false]; rfl
        rw [if_neg (by rw [hib]; decide)] at hs
        walk_at "rd"
        refine x_D (fun h6 => ?_) (fun h6 => ?_)
        · rw [if_pos (V.str.inj h6)] at hs
          obtain ⟨n, hn, hs⟩ := Option.bind_eq_some_iff.mp hs
          obtain ⟨c, hc, hs⟩ := Option.bind_eq_some_iff.mp hs
          obtain ⟨b, hb, hs⟩ := Option.bind_eq_some_iff.mp hs
          cases hs
          walk_at "rd"
          refine ⟨Or.inl ⟨_, .inl hd⟩, ?_⟩
          walk_at "rd"
          refine r_getI r.t7 hn ?_
          refine r_getS r.hfh hc ?_
          refine ⟨_, dget_i hd (valV_kI V.int c rs), ?_⟩
          rw [look_optI]
          walk_at "rd"
          refine ⟨Or.inl ⟨_, .inl hd⟩, ?_⟩
          walk_at "rd"
          refine r_getI r.hbh hb ?_
          refine ⟨_, dget_i hd (valV_kI V.int b rs), ?_⟩
          rw [look_optI]
          walk_at "rd"
          intro p np
          exact ⟨p, [some 1, look rs c, look rs b], rfl, SqL.of upd_same, k _ (same_upd np)⟩
        · rw [if_neg fun q => h6 (congrArg V.str q)] at hs
          obtain ⟨xs, hxs, hs⟩ := Option.bind_eq_some_iff.mp hs
          cases hs
          walk_at "rd"
          refine ⟨x, ad, mo, pr, bh, fh, R, z, be, fi, l, xs, rfl, r, hxs, sm2, fun t H1 s1 e1 => ?_⟩
          have hxl := stepL_len sm2 hxs
          walk_at "rd"
          refine ⟨⟨_, SqT.of e1⟩, fun D hD => ?_⟩
          refine lc_gets (SqT.of e1) (s1 _ _ hd) hD (by omega) (fun _ => ⟨rfl, rfl⟩) (fun v H' Q q => ⟨_, rfl, q⟩) ?_
          have s2 := s1.trans (same_upd (o := .lst ((xs.map (look rs)).map optI)) hD)
          have e2 : upd H1 D (.lst ((xs.map (look rs)).map optI)) D = _ := upd_same
          generalize upd H1 D _ = H2 at s2 e2 ⊢
          walk_at "rd"
          refine ⟨D, xs.map (look rs), rfl, SqL.of e2, by rw [List.length_map]; omega, fun H3 s3 => ?_⟩
          walk_at "rd"
          intro p np
          exact ⟨p, [some 1, leastL (xs.map (look rs))], rfl, SqL.of upd_same, k _ ((s2.trans s3).trans (same_upd np))⟩
    · have hib : isBack R kd l = false := by unfold isBack; rw [decide_eq_false h3', decide_eq_false fun q => h4 (congrArg V.str q)]; rfl
      rw [if_neg (by rw [hib]; decide)] at hs
      walk_at "rd"
      refine x_D (fun h6 => ?_) (fun h6 => ?_)
      · rw [if_pos (V.str.inj h6)] at hs
        obtain ⟨n, hn, hs⟩ := Option.bind_eq_some_iff.mp hs
        obtain ⟨c, hc, hs⟩ := Option.bind_eq_some_iff.mp hs
        obtain ⟨b, hb, hs⟩ := Option.bind_eq_some_iff.mp hs
        cases hs
        walk_at "rd"
        refine ⟨Or.inl ⟨_, .inl hd⟩, ?_⟩
        walk_at "rd"
        refine r_getI r.t7 hn ?_
        refine r_getS r.hfh hc ?_
        refine ⟨_, dget_i hd (valV_kI V.int c rs), ?_⟩
        rw [look_optI]
        walk_at "rd"
        refine ⟨Or.inl ⟨_, .inl hd⟩, ?_⟩
        walk_at "rd"
        refine r_getI r.hbh hb ?_
        refine ⟨_, dget_i hd (valV_kI V.int b rs), ?_⟩
        rw [look_optI]
        walk_at "rd"
        intro p np
        exact ⟨p, [some 1, look rs c, look rs b], rfl, SqL.of upd_same, k _ (same_upd np)⟩
      · rw [if_neg fun q => h6 (congrArg V.str q)] at hs
        obtain ⟨xs, hxs, hs⟩ := Option.bind_eq_some_iff.mp hs
        cases hs
        walk_at "rd"
        refine ⟨x, ad, mo, pr, bh, fh, R, z, be, fi, l, xs, rfl, r, hxs, sm2, fun t H1 s1 e1 => ?_⟩
        have hxl := stepL_len sm2 hxs
        walk_at "rd"
        refine ⟨⟨_, SqT.of e1⟩, fun D hD => ?_⟩
        refine lc_gets (SqT.of e1) (s1 _ _ hd) hD (by omega) (fun _ => ⟨rfl, rfl⟩) (fun v H' Q q => ⟨_, rfl, q⟩) ?_
        have s2 := s1.trans (same_upd (o := .lst ((xs.map (look rs)).map optI)) hD)
        have e2 : upd H1 D (.lst ((xs.map (look rs)).map optI)) D = _ := upd_same
        generalize upd H1 D _ = H2 at s2 e2 ⊢
        walk_at "rd"
        refine ⟨D, xs.map (look rs), rfl, SqL.of e2, by rw [List.length_map]; omega, fun H3 s3 => ?_⟩
        walk_at "rd"
        intro p np
        exact ⟨p, [some 1, leastL (xs.map (look rs))], rfl, SqL.of upd_same, k _ ((s2.trans s3).trans (same_upd np))⟩
def sp_stop (CP : Addr) : Sp := fun vs H Q _ => ∃ (x : Addr) (ad : Nat → Addr) (mo pr bh fh : Addr) (R : RdM) (z : Str) (be : List (Int × Int)) (fi : List (Str × Int)) (d1 d2 : Addr) (rs ss : List (Int × Int)) (l : Int) (res : Option Int), vs = [.ref x, .ref d1, .ref d2, .int l] ∧ ProgAt CP H x ad mo pr bh fh R z be fi ∧ H d1 = some (.dK (kI V.int rs)) ∧ H d2 = some (.dK (kI V.int ss)) ∧ Sm2 R ∧ stopL R be fi rs ss l = some res ∧ ∀ H', Same H H' → Q (optI res) H'
theorem ok_stop_length {f : Addr} {fd : FuncData} (F : Fun K "stop_length" "stop_length" s_stop_length f fd) (T : ShortTxt P K mg CP CM CN CR CO) (c_step_lines : Cal P w K mg base 1 "step_lines" (sp_step CP)) (c_sum_of : Cal P w K mg base 1 "sum_of" (sp_sum K)) (c_least_of : Cal P w K mg base 1 "least_of" (sp_least K)) : FnOk P w K mg base (L2.CX P w) 2 f fd P_stop_length (sp_stop CP) := by
  refine F.okX sc_stop_length (fun vs H Q E h => ?_) (fun cdv A outer s H vs Q E hr h => ?_)
  · obtain ⟨x, ad, mo, pr, bh, fh, R, z, be, fi, d1, d2, rs, ss, l, res, rfl, _⟩ := h
    rfl
  · obtain ⟨x, ad, mo, pr, bh, fh, R, z, be, fi, d1, d2, rs, ss, l, res, rfl, r, hd1, hd2, sm2, hs, k⟩ := h
    have Tr := T.pg
    have hu := hu_of hr
    unfold stopL at hs
    obtain ⟨kd, hk, hs⟩ := Option.bind_eq_some_iff.mp hs
    refine ⟨_, (pss_cons (ps_set (i := 4) sc_stop_length.nd rfl (Or.inl rfl) (pe_dget hu (pe_fld (pv 0) rfl) (pv 3) (fun _ _ => rfl)))
      (pss_cons (ps_if (pt_cmpR op_eq (pv 4) pe_str (nomark _)) (pss_one (ps_ret pe_int)) pss_nil)
      (pss_cons (ps_if (pt_cmpR op_eq (pv 4) pe_str (nomark _)) (pss_cons (ps_par (i := 5) (j := 6) (by rfl) sc_stop_length.nd rfl rfl (by decide) rfl rfl (pa_cons (pe_dget hu (pe_fld (pv 0) rfl) (pe_dget hu (pe_fld (pv 0) rfl) (pv 3) (fun _ _ => rfl)) (fun _ _ => rfl)) (pa_cons (pe_dget hu (pe_fld (pv 0) rfl) (pv 3) (fun _ _ => rfl)) pa_nil)) (by rfl))
      (pss_cons (ps_set (i := 7) sc_stop_length.nd rfl (Or.inl rfl) (pe_cc c_sum_of hr (by decide) rfl (pa_cons (pe_lst (pa_cons pe_int (pa_cons (pe_dget1 hu (pv 2) (pv 5) ⟨rfl, rfl, rfl, rfl⟩) pa_nil))) pa_nil)))
      (pss_one (ps_ret (pe_cc c_least_of hr (by decide) rfl (pa_cons (pe_lst (pa_cons (pv 7) (pa_cons (pe_cc c_sum_of hr (by decide) rfl (pa_cons (pe_lst (pa_cons pe_int (pa_cons (pe_dget1 hu (pv 1) (pv 5) ⟨rfl, rfl, rfl, rfl⟩) (pa_cons (pe_dget1 hu (pv 2) (pv 6) ⟨rfl, rfl, rfl, rfl⟩) pa_nil)))) pa_nil)) pa_nil))) pa_nil)))))) pss_nil)
      (pss_one (ps_ret (pe_cc c_sum_of hr (by decide) rfl (pa_cons (pe_lst (pa_cons pe_int (pa_cons (pe_cc c_least_of hr (by decide) rfl (pa_cons (pe_lc (own := [("other", 8)]) (g := gName 8) (tt := tYes) rfl sc_stop_length.nd (pi_tup (pe_cc c_step_lines hr (by decide) rfl (pa_cons (pv 0) (pa_cons (pv 3) pa_nil)))) (blkOk_by (own := [("other", 8)]) (N := N_stop_length) (sc := defScope s_stop_length) (by decide +kernel)) (fun _ _ _ _ _ => (pg_name (i := 8) sc_stop_length.nd rfl (Or.inl rfl))) (fun _ _ _ _ _ => pts_nil) (fun _ _ _ _ _ => (pe_dget1 hu (pv 2) (pv 8) ⟨rfl, rfl, rfl, rfl⟩))) pa_nil)) pa_nil))) pa_nil))))))), ?_⟩
    show tSeq _ _ _ [some (V.ref x), some (V.ref d1), some (V.ref d2), some (V.int l), none, none, none, none, none] H
    walk_at "rd"
    refine r_getI r.t3 hk ?_
    walk_at "rd"
    refine x_D (fun h3 => ?_) (fun h3 => ?_)
    · rw [if_pos (V.str.inj h3)] at hs
      cases hs
      walk_at "rd"
      exact k H fun _ _ e => e
    rw [if_neg fun q => h3 (congrArg V.str q)] at hs
    walk_at "rd"
    refine x_D (fun h6 => ?_) (fun h6 => ?_)
    · rw [if_pos (V.str.inj h6)] at hs
      obtain ⟨n, hn, hs⟩ := Option.bind_eq_some_iff.mp hs
      obtain ⟨c, hc, hs⟩ := Option.bind_eq_some_iff.mp hs
      obtain ⟨b, hb, hs⟩ := Option.bind_eq_some_iff.mp hs
      cases hs
      walk_at "rd"
      refine r_getI r.t7 hn ?_
      refine r_getS r.hfh hc ?_
      walk_at "rd"
      refine r_getI r.hbh hb ?_
      walk_at "rd"
      refine ⟨Or.inl ⟨_, .inl hd2⟩, ?_⟩
      walk_at "rd"
      refine ⟨dget_i hd2 (valV_kI V.int c ss), ?_⟩
      rw [look_optI]
      walk_at "rd"
      intro p np
      have s1 := same_upd (o := .lst [.int 1, optI (look ss c)]) np
      refine ⟨p, [some 1, look ss c], rfl, SqL.of upd_same, ?_⟩
      replace hd1 := s1 _ _ hd1
      replace hd2 := s1 _ _ hd2
      generalize upd H p _ = H1 at s1 hd1 hd2 ⊢
      walk_at "rd"
      refine ⟨Or.inl ⟨_, .inl hd1⟩, ?_⟩
      walk_at "rd"
      refine ⟨dget_i hd1 (valV_kI V.int c rs), ?_⟩
      rw [look_optI]
      walk_at "rd"
      refine ⟨Or.inl ⟨_, .inl hd2⟩, ?_⟩
      walk_at "rd"
      refine ⟨dget_i hd2 (valV_kI V.int b ss), ?_⟩
      rw [look_optI]
      walk_at "rd"
      intro p2 np2
      refine ⟨p2, [some 1, look rs c, look ss b], rfl, SqL.of upd_same, ?_⟩
      walk_at "rd"
      intro p3 np3
      exact ⟨p3, [sumL [some 1, look ss c] 0, sumL [some 1, look rs c, look ss b] 0], rfl, SqL.of upd_same, by simp, fun H3 s3 => k _ (((s1.trans (same_upd np2)).trans (same_upd np3)).trans s3)⟩
    · rw [if_neg fun q => h6 (congrArg V.str q)] at hs
      obtain ⟨xs, hxs, hs⟩ := Option.bind_eq_some_iff.mp hs
      cases hs
      walk_at "rd"
      refine ⟨x, ad, mo, pr, bh, fh, R, z, be, fi, l, xs, rfl, r, hxs, sm2, fun t H1 s1 e1 => ?_⟩
      have hxl := stepL_len sm2 hxs
      walk_at "rd"
      refine ⟨⟨_, SqT.of e1⟩, fun D hD => ?_⟩
      refine lc_gets (SqT.of e1) (s1 _ _ hd2) hD (by omega) (fun _ => ⟨rfl, rfl⟩) (fun v H' Q q => ⟨_, rfl, q⟩) ?_
      have s2 := s1.trans (same_upd (o := .lst ((xs.map (look ss)).map optI)) hD)
      have e2 : upd H1 D (.lst ((xs.map (look ss)).map optI)) D = _ := upd_same
      generalize upd H1 D _ = H2 at s2 e2 ⊢
      walk_at "rd"
      refine ⟨D, xs.map (look ss), rfl, SqL.of e2, by rw [List.length_map]; omega, fun H3 s3 => ?_⟩
      walk_at "rd"
      intro p np
      exact ⟨p, [some 1, leastL (xs.map (look ss))], rfl, SqL.of upd_same, k _ ((s2.trans s3).trans (same_upd np))⟩
end
end MP
end
section
open PySem L2 MPX MP
local macro_rules | `(tactic| walk_at "rd1") => `(tactic| first
  | with_reducible refine x_seq ?_
  | with_reducible refine x_next ?_
  | with_reducible refine x_ret ?_
  | with_reducible refine x_retN ?_
  | with_reducible refine x_ifs ?_
  | with_reducible refine x_asg ?_
  | with_reducible refine x_drop ?_
  | with_reducible refine x_name ?_
  | ((with_reducible refine' x_var ?vv ?_); (case vv => exact rfl))
  | with_reducible refine x_c ?_
  | with_reducible refine x_op ?_
  | with_reducible refine x_un ?_
  | with_reducible refine x_test ?_
  | with_reducible refine x_tB ?_
  | with_reducible refine x_and ?_
  | with_reducible refine x_or ?_
  | with_reducible refine x_not ?_
  | with_reducible refine x_andV ?_
  | with_reducible refine x_orV ?_
  | with_reducible refine x_notV ?_
  | with_reducible refine x_if ?_
  | with_reducible refine x_nil ?_
  | with_reducible refine x_cons ?_
  | with_reducible refine x_tup ?_
  | with_reducible refine x_lst ?_
  | with_reducible refine x_cb ?_
  | with_reducible refine x_call ?_
  | with_reducible refine x_callS ?_
  | with_reducible refine x_callP ?_
  | with_reducible refine x_mk0 ?_
  | with_reducible refine x_mk1 ?_
  | with_reducible refine x_mk2 ?_
  | with_reducible refine x_make ?_
  | with_reducible refine x_sfld ?_
  | with_reducible refine x_din ?_
  | with_reducible refine x_dnin ?_
  | with_reducible refine x_fldS ?_
  | with_reducible refine x_sl3 ?_
  | ((with_reducible refine' r_pg ?vr ?vt ?vm ?vl ?vq); (case vr => (with_reducible assumption)); (case vt => assumption); (case vm => decide +kernel); (case vl => exact rfl))
  | with_reducible refine x_m0 ?_
  | with_reducible refine x_m1 ?_
  | with_reducible refine x_bm0 ?_
  | with_reducible refine x_bm ?_
  | with_reducible refine x_par ?_
  | with_reducible refine x_ilist ?_
  | with_reducible refine x_itup ?_
  | with_reducible refine x_istr ?_
  | ((with_reducible show tLc _ _ _ _ _ _ _ _); unfold tLc)
  | ((with_reducible show tFor _ _ _ _ _ _); unfold tFor)
  | ((with_reducible refine' x_eq ?vv ?_); (case vv => exact rfl))
  | ((with_reducible refine' x_ne ?vv ?_); (case vv => exact rfl))
  | with_reducible refine x_rI0 ?_
  | with_reducible refine x_dgetR ?_
  | with_reducible refine x_dputR ?_
  | with_reducible refine x_dnew ?_
  | with_reducible refine x_dget1 ?_
  | with_reducible refine x_dget2 ?_
  | with_reducible refine x_sl ?_
  | with_reducible refine x_nopart ?_
  | with_reducible refine x_part ?_
  | ((with_reducible refine' x_slL ?vv ?_); (case vv => (with_reducible assumption)))
  | with_reducible refine x_disp ?_
  | with_reducible refine x_pcons ?_
  | with_reducible refine x_pnil ?_
  | ((with_reducible refine' x_mod ?vv ?_); (case vv => omega); intro r er hr0 hr1; (try clear er))
  | ((with_reducible refine' x_rI ?vv ?_); (case vv => walk_at "sc"))
  | (with_reducible refine Or.inl (Exists.intro _ (And.intro rfl ?_)))
  | with_reducible refine x_T ?_
  | with_reducible refine x_F ?_
  | ((with_reducible show Exists (α := V) _); (with_reducible apply Exists.intro))
  | ((with_reducible show Exists (α := Bool) _); (with_reducible apply Exists.intro))
  | ((with_reducible show Exists (α := Nat) _); (with_reducible apply Exists.intro))
  | ((with_reducible show Exists (α := Int) _); (with_reducible apply Exists.intro))
  | ((with_reducible show Exists (α := List V) _); (with_reducible apply Exists.intro))
  | ((with_reducible show Exists (α := PySem.Str) _); (with_reducible apply Exists.intro))
  | ((with_reducible show Exists (α := Option V) _); (with_reducible apply Exists.intro))
  | ((with_reducible show Exists (α := Option Int) _); (with_reducible apply Exists.intro))
  | ((with_reducible show Exists (α := List (Key × V)) _); (with_reducible apply Exists.intro))
  | refine And.intro rfl ?_
  | ((with_reducible refine And.intro ?vv ?_); (case vv => (first | (with_reducible assumption) | (show _ ≤ sizeLine; decide) | exact len_ok rfl)))
  | (refine And.intro (Exists.intro _ rfl) ?_))
local macro_rules | `(tactic| walk_at "sc") => `(tactic| first
  | (with_reducible assumption)
  | exact divW (by omega) (by omega)
  | exact mulW (by omega) (by omega)
  | exact Or.inl ⟨by omega, by omega⟩
  | exact Or.inr ⟨by omega, by omega⟩
  | (show (_ : Int) ≠ 0; omega)
  | exact ⟨by decide, by decide, by decide⟩
  | decide)
local macro_rules | `(tactic| walk_at "rd") => `(tactic| repeat walk_at "rd1")
namespace MP
open PySem L2 StX
section
variable {P : Program} {w : World} {K : PySem.W.Frag} {mg : Str → Option Value} {base : Heap} {ts : Nat → Tok} {CP CM CN CR CO : Addr}
abbrev s_shortest_tables : Stmt := topS 52
abbrev N_shortest_tables : List Str := ["program", "returns", "stops", "changed", "line", "far"]
abbrev P_shortest_tables : List Str := ["program"]
theorem sc_shortest_tables : FnScope N_shortest_tables P_shortest_tables (defScope s_shortest_tables) := ⟨rfl, rfl, rfl, by decide +kernel, rfl, by decide +kernel, by decide +kernel⟩
theorem note0 (d : List (Int × Int)) (l : Int) (ch : Bool) : noteL none d l ch = (d, ch) := rfl
theorem note1 {d : List (Int × Int)} {l n : Int} {ch : Bool} (h : look d l = some n) : noteL (some n) d l ch = (d, ch) := if_pos h
theorem note2 {d : List (Int × Int)} {l n : Int} {ch : Bool} (h : look d l ≠ some n) : noteL (some n) d l ch = (putG d l n, true) := if_neg h
theorem noteL_len (far : Option Int) (d : List (Int × Int)) (l : Int) (ch : Bool) : (noteL far d l ch).1.length ≤ d.length + 1 := by
  cases far with
  | none => exact Nat.le_succ _
  | some n =>
    by_cases h : look d l = some n
    · rw [note1 h]
      exact Nat.le_succ _
    · rw [note2 h]
      exact putG_len ..
theorem none_of_same {H H1 : Hp} {p : Addr} (s : Same H H1) (n : H1 p = none) : H p = none := by
  cases q : H p with
  | none => rfl
  | some o => rw [s _ _ q] at n; cases n
theorem same_lock2 {H H' : Hp} {a : Addr} {o : HO} (s : Same H H') : Same (upd H a o) (upd H' a o) := fun b u e => by
  by_cases z : b = a
  · subst z
    rw [upd_same] at e ⊢
    exact e
  · rw [upd_ne z] at e ⊢
    exact s b u e
def TabW (R : RdM) (be : List (Int × Int)) (fi : List (Str × Int)) (n : Nat) (rs ss : List (Int × Int)) (x d1 d2 : Addr) (H : Hp) (m : Nat) (σ : L2.St) (H' : Hp) : Prop := ∃ (ra sa : List (Int × Int)) (ch : Bool) (x4 x5 : Option V), σ = [some (V.ref x), some (V.ref d1), some (V.ref d2), some (V.bl ch), x4, x5] ∧ Same H H' ∧
  H' d1 = some (.dK (kI V.int ra)) ∧ H' d2 = some (.dK (kI V.int sa)) ∧ ra.length + m * R.owners.length ≤ n * R.owners.length ∧ sa.length + m * R.owners.length ≤ n * R.owners.length ∧ (ch = true → tabsL R be fi m ra sa = some (rs, ss)) ∧ (ch = false → ra = rs ∧ sa = ss)
def sp_tabs (CP : Addr) : Sp := fun vs H Q _ => ∃ (x : Addr) (ad : Nat → Addr) (mo pr bh fh : Addr) (R : RdM) (z : Str) (be : List (Int × Int)) (fi : List (Str × Int)) (n : Nat) (rs ss : List (Int × Int)), vs = [.ref x] ∧ ProgAt CP H x ad mo pr bh fh R z be fi ∧ H (ad 4) = some (.dK (kI V.str R.owners)) ∧ Sm2 R ∧ n * R.owners.length < 90000 ∧ tabsL R be fi n [] [] = some (rs, ss) ∧
  ∀ t d1 d2 H', Same H H' → H' t = some (.tup [.ref d1, .ref d2]) → H' d1 = some (.dK (kI V.int rs)) → H' d2 = some (.dK (kI V.int ss)) → Q (.ref t) H'
theorem ok_shortest_tables {f : Addr} {fd : FuncData} (F : Fun K "shortest_tables" "shortest_tables" s_shortest_tables f fd) (T : ShortTxt P K mg CP CM CN CR CO) (c_return_length : Cal P w K mg base 2 "return_length" (sp_ret CP)) (c_stop_length : Cal P w K mg base 2 "stop_length" (sp_stop CP)) : FnOk P w K mg base (L2.CX P w) 3 f fd P_shortest_tables (sp_tabs CP) := by
  refine F.okX sc_shortest_tables (fun vs H Q E h => ?_) (fun cdv A outer s H vs Q E hr h => ?_)
  · obtain ⟨x, ad, mo, pr, bh, fh, R, z, be, fi, n, rs, ss, rfl, _⟩ := h
    rfl
  · obtain ⟨x, ad, mo, pr, bh, fh, R, z, be, fi, n, rs, ss, rfl, r, hown, sm2, hn, hs, k⟩ := h
    have Tr := T.pg
    have hu := hu_of hr
    refine ⟨_, (pss_cons (ps_par (i := 1) (j := 2) (by rfl) sc_shortest_tables.nd rfl rfl (by decide) rfl rfl (pa_cons pe_dnewK (pa_cons pe_dnewK pa_nil)) (by rfl))
      (pss_cons (ps_set (i := 3) sc_shortest_tables.nd rfl (Or.inl rfl) pe_bl)
      (pss_cons (ps_while (passes_of rfl) (pt_val (pv 3)) (pss_cons (ps_set (i := 3) sc_shortest_tables.nd rfl (Or.inl rfl) pe_bl)
      (pss_one (ps_lock (ps_for (passes_of rfl) rfl (pi_keys (pe_fld (pv 0) rfl)) (pg_name (i := 4) sc_shortest_tables.nd rfl (Or.inl rfl))
        (pss_cons (ps_set (i := 5) sc_shortest_tables.nd rfl (Or.inl rfl) (pe_cc c_return_length hr (by decide) rfl (pa_cons (pv 0) (pa_cons (pv 1) (pa_cons (pv 4) pa_nil)))))
        (pss_word (ps_if (PW.pt (pw_and (pt_cmpR op_notN (pv 5) pe_non (nomark _)) (pw_and1 (pt_cmpR op_ne (pv 5) (pe_dget1 hu (pv 1) (pv 4) ⟨rfl, rfl, rfl, rfl⟩) (nomark _))))) (pss_cons (ps_dput hu (pv 1) (pv 4) (pv 5) rfl)
          (pss_one (ps_set (i := 3) sc_shortest_tables.nd rfl (Or.inl rfl) pe_bl))) pss_nil)
        (pss_cons (ps_set (i := 5) sc_shortest_tables.nd rfl (Or.inl rfl) (pe_cc c_stop_length hr (by decide) rfl (pa_cons (pv 0) (pa_cons (pv 1) (pa_cons (pv 2) (pa_cons (pv 4) pa_nil))))))
        (pss_one (ps_if (PW.pt (pw_and (pt_cmpR op_notN (pv 5) pe_non (nomark _)) (pw_and1 (pt_cmpR op_ne (pv 5) (pe_dget1 hu (pv 2) (pv 4) ⟨rfl, rfl, rfl, rfl⟩) (nomark _))))) (pss_cons (ps_dput hu (pv 2) (pv 4) (pv 5) rfl)
          (pss_one (ps_set (i := 3) sc_shortest_tables.nd rfl (Or.inl rfl) pe_bl))) pss_nil))))))))))
      (pss_one (ps_ret (pe_tup (pa_cons (pv 1) (pa_cons (pv 2) pa_nil)))))))), ?_⟩
    show tSeq _ _ _ [some (V.ref x), none, none, none, none, none] H
    walk_at "rd"
    intro d1 nd1
    have s1 := same_upd (o := .dK []) nd1
    have e1 : upd H d1 (.dK []) d1 = some (.dK (kI V.int ([] : List (Int × Int)))) := upd_same
    generalize upd H d1 _ = H1 at s1 e1 ⊢
    walk_at "rd"
    intro d2 nd2
    have s2 := same_upd (o := .dK []) nd2
    have e2 : upd H1 d2 (.dK []) d2 = some (.dK (kI V.int ([] : List (Int × Int)))) := upd_same
    have hd12 : d1 ≠ d2 := ne_of_none e1 nd2
    have nd2 := none_of_same s1 nd2
    replace e1 := s2 _ _ e1
    replace s2 := s1.trans s2
    generalize upd H1 d2 _ = H2 at s2 e1 e2 ⊢
    clear s1
    walk_at "rd"
    refine ⟨fun m σ H' => Hold (TabW R be fi n rs ss x d1 d2 H m σ H'), ⟨n, ⟨[], [], true, none, none, rfl, s2, e1, e2, by simp, by simp, fun _ => hs, fun z => by cases z⟩⟩, ?_⟩
    clear e1 e2 s2
    rintro m σ H' ⟨ra, sa, ch, x4, x5, rfl, s, a1, a2, l1, l2, ht, hf⟩
    walk_at "rd"
    refine x_B (fun hc => ?_) (fun hc => ?_)
    · replace ht := ht hc
      cases m with
      | zero => cases ht
      | succ m =>
        unfold tabsL at ht
        obtain ⟨st, hst, ht⟩ := Option.bind_eq_some_iff.mp ht
        refine ⟨fun σ' H'' => Hold (TabW R be fi n rs ss x d1 d2 H m σ' H''), fun σ' H'' h => ⟨m, Nat.lt_succ_self _, h⟩, ?_⟩
        rw [Nat.succ_mul] at l1 l2
        walk_at "rd"
        refine ⟨ad 4, _, s _ _ hown, trivial, fun od => ?_⟩
        have r0 := r.lock4 od
        have d14 : d1 ≠ ad 4 := fun z => by rw [z, hown] at nd1; cases nd1
        have d24 : d2 ≠ ad 4 := fun z => by rw [z, hown] at nd2; cases nd2
        have n1 : upd H (ad 4) (.frz od (.dK (kI V.str R.owners))) d1 = none := by rw [upd_ne d14]; exact nd1
        have n2 : upd H (ad 4) (.frz od (.dK (kI V.str R.owners))) d2 = none := by rw [upd_ne d24]; exact nd2
        have eL : upd H (ad 4) (.frz od (.dK (kI V.str R.owners))) (ad 4) = some (.frz od (.dK (kI V.str R.owners))) := upd_same
        have sL := same_lock2 (a := ad 4) (o := .frz od (.dK (kI V.str R.owners))) s
        replace a1 : upd H' (ad 4) (.frz od (.dK (kI V.str R.owners))) d1 = _ := (upd_ne d14).trans a1
        replace a2 : upd H' (ad 4) (.frz od (.dK (kI V.str R.owners))) d2 = _ := (upd_ne d24).trans a2
        have eun := fun H3 => same_unlock (H3 := H3) (od := od) hown
        generalize upd H (ad 4) (.frz od (.dK (kI V.str R.owners))) = H0 at r0 n1 n2 eL sL eun
        have r1 := r0.same sL
        walk_at "rd"
        refine x_ikeys ?_
        walk_at "rd"
        refine ⟨od, rfl, Or.inl ⟨_, sL _ _ eL, ?_⟩⟩
        refine for_it walk_keys (fun i σ HL => Hold (∃ (rb sb : List (Int × Int)) (cb : Bool) (x4 x5 : Option V), σ = [some (V.ref x), some (V.ref d1), some (V.ref d2), some (V.bl cb), x4, x5] ∧ Same H0 HL ∧ HL d1 = some (.dK (kI V.int rb)) ∧ HL d2 = some (.dK (kI V.int sb)) ∧ rb.length ≤ ra.length + i ∧ sb.length ≤ sa.length + i ∧ roundL R be fi ((R.owners.map (·.1)).drop i) (rb, sb, cb) = some st))
          ⟨ra, sa, false, _, _, rfl, sL, a1, a2, Nat.le_refl _, Nat.le_refl _, hst⟩ (fun i σ HL _ ⟨_, _, _, _, _, _, s, _⟩ => s _ _ eL) ?_ ?_
        · clear a1 a2 hst sL r1 hf ht
          rintro i v σ H3 H4 hi ⟨rb, sb, cb, x4, x5, rfl, s3, a1, a2, b1, b2, hr3⟩ ⟨rfl, k2, v2, hk2, rfl⟩
          unfold kI at hk2
          rw [List.getElem?_map] at hk2
          obtain ⟨cc, hcc, e2⟩ := Option.map_eq_some_iff.mp hk2
          cases e2
          have hio : i < R.owners.length := (List.getElem?_eq_some_iff.mp hcc).1
          rw [drop_at (show (R.owners.map (·.1))[i]? = some cc.1 by rw [List.getElem?_map, hcc]; rfl)] at hr3
          unfold roundL at hr3
          obtain ⟨st2, hst2, hr3⟩ := Option.bind_eq_some_iff.mp hr3
          unfold turnL at hst2
          obtain ⟨far, hfar, hst2⟩ := Option.bind_eq_some_iff.mp hst2
          obtain ⟨far2, hfar2, hst2⟩ := Option.bind_eq_some_iff.mp hst2
          cases hst2
          have r3 := r0.same s3
          walk_at "rd"
          refine ⟨x, ad, mo, pr, bh, fh, R, z, be, fi, d1, rb, cc.1, far, rfl, r3, a1, sm2, hfar, fun H5 s5 => ?_⟩
          replace a1 := s5 _ _ a1
          replace a2 := s5 _ _ a2
          replace s3 := s3.trans s5
          clear s5 r3
          walk_at "rd"
          refine ⟨fun σ' H6 => Hold (∃ x5 : Option V, σ' = [some (V.ref x), some (V.ref d1), some (V.ref d2), some (V.bl (noteL far rb cc.1 cb).2), some (V.int cc.1), x5] ∧ Same H0 H6 ∧ H6 d1 = some (.dK (kI V.int (noteL far rb cc.1 cb).1)) ∧ H6 d2 = some (.dK (kI V.int sb))), ?_, ?_⟩
          · walk_at "rd"
            cases far with
            | none =>
              refine x_cF rfl ?_
              walk_at "rd"
              exact ⟨_, rfl, s3, a1, a2⟩
            | some nn =>
              refine x_cT rfl ?_
              walk_at "rd"
              refine ⟨Or.inl ⟨_, .inl a1⟩, ?_⟩
              walk_at "rd"
              refine ⟨dget_i a1 (valV_kI V.int cc.1 rb), ?_⟩
              rw [look_optI]
              by_cases hlk : look rb cc.1 = some nn
              · rw [note1 hlk, hlk]
                walk_at "rd"
                refine x_cF (by show (!decide (V.int nn = V.int nn)) = false; rw [decide_eq_true rfl]; rfl) ?_
                walk_at "rd"
                exact ⟨_, rfl, s3, a1, a2⟩
              · rw [note2 hlk]
                have hne : (!decide (V.int nn = optI (look rb cc.1))) = true := by
                  rw [decide_eq_false fun q => hlk ?_]
                  · rfl
                  · cases h : look rb cc.1 with
                    | none => rw [h] at q; cases q
                    | some w => rw [h] at q; cases q; rfl
                have hsc : scal (V.int nn) (optI (look rb cc.1)) = true := by cases look rb cc.1 <;> rfl
                refine x_ne hsc ?_
                walk_at "rd"
                refine x_cT hne ?_
                walk_at "rd"
                refine r_putGI nn a1 (by omega) ?_
                walk_at "rd"
                exact ⟨_, rfl, same_at s3 n1, upd_same, (upd_ne (Ne.symm hd12)).trans a2⟩
          · rintro σ' H6 ⟨x5, rfl, s6, a1, a2⟩
            have r6 := r0.same s6
            walk_at "rd"
            refine ⟨x, ad, mo, pr, bh, fh, R, z, be, fi, d1, d2, _, sb, cc.1, far2, rfl, r6, a1, a2, sm2, hfar2, fun H7 s7 => ?_⟩
            have hb1 := noteL_len far rb cc.1 cb
            have hb2 := noteL_len far2 sb cc.1 (noteL far rb cc.1 cb).2
            generalize noteL far rb cc.1 cb = na at a1 a2 hr3 hb1 hb2 ⊢
            obtain ⟨rb2, cb2⟩ := na
            replace a1 := s7 _ _ a1
            replace a2 := s7 _ _ a2
            replace s6 := s6.trans s7
            clear s7 r6
            walk_at "rd"
            cases far2 with
            | none =>
              refine x_cF rfl ?_
              walk_at "rd"
              exact ⟨rb2, sb, cb2, _, _, rfl, s6, a1, a2, Nat.le_trans hb1 (Nat.succ_le_succ b1), Nat.le_succ_of_le b2, hr3⟩
            | some nn =>
              refine x_cT rfl ?_
              walk_at "rd"
              refine ⟨Or.inl ⟨_, .inl a2⟩, ?_⟩
              walk_at "rd"
              refine ⟨dget_i a2 (valV_kI V.int cc.1 sb), ?_⟩
              rw [look_optI]
              by_cases hlk : look sb cc.1 = some nn
              · rw [note1 hlk] at hr3
                rw [hlk]
                walk_at "rd"
                refine x_cF (by show (!decide (V.int nn = V.int nn)) = false; rw [decide_eq_true rfl]; rfl) ?_
                walk_at "rd"
                exact ⟨rb2, sb, cb2, _, _, rfl, s6, a1, a2, Nat.le_trans hb1 (Nat.succ_le_succ b1), Nat.le_succ_of_le b2, hr3⟩
              · rw [note2 hlk] at hr3 hb2
                have hne : (!decide (V.int nn = optI (look sb cc.1))) = true := by
                  rw [decide_eq_false fun q => hlk ?_]
                  · rfl
                  · cases h : look sb cc.1 with
                    | none => rw [h] at q; cases q
                    | some w => rw [h] at q; cases q; rfl
                have hsc : scal (V.int nn) (optI (look sb cc.1)) = true := by cases look sb cc.1 <;> rfl
                refine x_ne hsc ?_
                walk_at "rd"
                refine x_cT hne ?_
                walk_at "rd"
                refine r_putGI nn a2 (by omega) ?_
                walk_at "rd"
                exact ⟨rb2, putG sb cc.1 nn, true, _, _, rfl, same_at s6 n2, (upd_ne hd12).trans a1, upd_same, Nat.le_trans hb1 (Nat.succ_le_succ b1), Nat.le_trans hb2 (Nat.succ_le_succ b2), hr3⟩
        · rintro σ H3 ⟨rb, sb, cb, x4, x5, rfl, s3, a1, a2, b1, b2, hr3⟩
          rw [kI_len] at b1 b2 hr3
          rw [List.drop_of_length_le (by rw [List.length_map]; exact Nat.le_refl _)] at hr3
          cases hr3
          refine ⟨s3 _ _ eL, ⟨rb, sb, cb, _, _, rfl, eun _ s3, (upd_ne d14).trans a1, (upd_ne d24).trans a2, by omega, by omega, fun z => ?_, fun z => ?_⟩⟩
          · rw [if_pos z] at ht
            exact ht
          · rw [if_neg (by show ¬ cb = true; rw [z]; exact Bool.false_ne_true)] at ht
            cases ht
            exact ⟨rfl, rfl⟩
    · obtain ⟨rfl, rfl⟩ := hf hc
      walk_at "rd"
      intro t nt
      have s4 := same_upd (o := .tup [.ref d1, .ref d2]) nt
      exact k t d1 d2 _ (s.trans s4) upd_same (s4 _ _ a1) (s4 _ _ a2)
end
end MP
end
section
open PySem L2 MPX MP
local macro_rules | `(tactic| walk_at "rd1") => `(tactic| first
  | with_reducible refine x_seq ?_
  | with_reducible refine x_next ?_
  | with_reducible refine x_ret ?_
  | with_reducible refine x_retN ?_
  | with_reducible refine x_ifs ?_
  | with_reducible refine x_asg ?_
  | with_reducible refine x_drop ?_
  | with_reducible refine x_name ?_
  | ((with_reducible refine' x_var ?vv ?_); (case vv => exact rfl))
  | with_reducible refine x_c ?_
  | with_reducible refine x_op ?_
  | with_reducible refine x_un ?_
  | with_reducible refine x_test ?_
  | with_reducible refine x_tB ?_
  | with_reducible refine x_and ?_
  | with_reducible refine x_or ?_
  | with_reducible refine x_not ?_
  | with_reducible refine x_andV ?_
  | with_reducible refine x_orV ?_
  | with_reducible refine x_notV ?_
  | with_reducible refine x_if ?_
  | with_reducible refine x_nil ?_
  | with_reducible refine x_cons ?_
  | with_reducible refine x_tup ?_
  | with_reducible refine x_lst ?_
  | with_reducible refine x_cb ?_
  | with_reducible refine x_call ?_
  | with_reducible refine x_callS ?_
  | with_reducible refine x_callP ?_
  | with_reducible refine x_mk0 ?_
  | with_reducible refine x_mk1 ?_
  | with_reducible refine x_mk2 ?_
  | with_reducible refine x_make ?_
  | with_reducible refine x_sfld ?_
  | with_reducible refine x_din ?_
  | with_reducible refine x_dnin ?_
  | with_reducible refine x_fldS ?_
  | with_reducible refine x_sl3 ?_
  | ((with_reducible refine' r_pg ?vr ?vt ?vm ?vl ?vq); (case vr => (with_reducible assumption)); (case vt => assumption); (case vm => decide +kernel); (case vl => exact rfl))
  | with_reducible refine x_m0 ?_
  | with_reducible refine x_m1 ?_
  | with_reducible refine x_bm0 ?_
  | with_reducible refine x_bm ?_
  | with_reducible refine x_par ?_
  | with_reducible refine x_ilist ?_
  | with_reducible refine x_itup ?_
  | with_reducible refine x_istr ?_
  | ((with_reducible show tLc _ _ _ _ _ _ _ _); unfold tLc)
  | ((with_reducible show tFor _ _ _ _ _ _); unfold tFor)
  | ((with_reducible refine' x_eq ?vv ?_); (case vv => exact rfl))
  | ((with_reducible refine' x_ne ?vv ?_); (case vv => exact rfl))
  | with_reducible refine x_rI0 ?_
  | with_reducible refine x_dgetR ?_
  | with_reducible refine x_dputR ?_
  | with_reducible refine x_dnew ?_
  | with_reducible refine x_dget1 ?_
  | with_reducible refine x_dget2 ?_
  | with_reducible refine x_sl ?_
  | with_reducible refine x_nopart ?_
  | with_reducible refine x_part ?_
  | ((with_reducible refine' x_slL ?vv ?_); (case vv => (with_reducible assumption)))
  | with_reducible refine x_disp ?_
  | with_reducible refine x_pcons ?_
  | with_reducible refine x_pnil ?_
  | ((with_reducible refine' x_mod ?vv ?_); (case vv => omega); intro r er hr0 hr1; (try clear er))
  | ((with_reducible refine' x_rI ?vv ?_); (case vv => walk_at "sc"))
  | (with_reducible refine Or.inl (Exists.intro _ (And.intro rfl ?_)))
  | with_reducible refine x_T ?_
  | with_reducible refine x_F ?_
  | ((with_reducible show Exists (α := V) _); (with_reducible apply Exists.intro))
  | ((with_reducible show Exists (α := Bool) _); (with_reducible apply Exists.intro))
  | ((with_reducible show Exists (α := Nat) _); (with_reducible apply Exists.intro))
  | ((with_reducible show Exists (α := Int) _); (with_reducible apply Exists.intro))
  | ((with_reducible show Exists (α := List V) _); (with_reducible apply Exists.intro))
  | ((with_reducible show Exists (α := PySem.Str) _); (with_reducible apply Exists.intro))
  | ((with_reducible show Exists (α := Option V) _); (with_reducible apply Exists.intro))
  | ((with_reducible show Exists (α := Option Int) _); (with_reducible apply Exists.intro))
  | ((with_reducible show Exists (α := List (Key × V)) _); (with_reducible apply Exists.intro))
  | refine And.intro rfl ?_
  | ((with_reducible refine And.intro ?vv ?_); (case vv => (first | (with_reducible assumption) | (show _ ≤ sizeLine; decide) | exact len_ok rfl)))
  | (refine And.intro (Exists.intro _ rfl) ?_))
local macro_rules | `(tactic| walk_at "sc") => `(tactic| first
  | (with_reducible assumption)
  | exact divW (by omega) (by omega)
  | exact mulW (by omega) (by omega)
  | exact Or.inl ⟨by omega, by omega⟩
  | exact Or.inr ⟨by omega, by omega⟩
  | (show (_ : Int) ≠ 0; omega)
  | exact ⟨by decide, by decide, by decide⟩
  | decide)
local macro_rules | `(tactic| walk_at "rd") => `(tactic| repeat walk_at "rd1")
namespace MP
open PySem L2 StX
section
variable {P : Program} {w : World} {K : PySem.W.Frag} {mg : Str → Option Value} {base : Heap} {ts : Nat → Tok} {CP CM CN CR CO : Addr}
abbrev s_shortest_step : Stmt := topS 58
abbrev N_shortest_step : List Str := ["program", "returns", "stops", "line", "returning", "table", "first", "behind", "other"]
abbrev P_shortest_step : List Str := ["program", "returns", "stops", "line", "returning"]
theorem sc_shortest_step : FnScope N_shortest_step P_shortest_step (defScope s_shortest_step) := ⟨rfl, rfl, rfl, by decide +kernel, rfl, by decide +kernel, by decide +kernel⟩
/-- goals for later: tuples of a line and what it goes to -/
def GlAt (H : Hp) (gl : List (Addr × Int × Bool)) : Prop := ∀ g ∈ gl, H g.1 = some (.tup [.int g.2.1, .bl g.2.2])
theorem GlAt.same {H H' : Hp} {gl : List (Addr × Int × Bool)} (g : GlAt H gl) (s : Same H H') : GlAt H' gl := fun x hx => s _ _ (g x hx)
theorem x_sel {σ : L2.St} {H : Hp} {Q : VK} {i j : Nat} {a b c : Addr} {ret : Bool} (e : c = if ret = true then a else b) (h1 : σ[i]? = some (some (.ref a))) (h2 : σ[j]? = some (some (.ref b))) (h : Q (.ref c) H) : if ret = true then tVar i σ H Q else tVar j σ H Q := by
  subst e
  cases ret
  · exact ⟨_, h2, h⟩
  · exact ⟨_, h1, h⟩
def sp_sstep (CP : Addr) : Sp := fun vs H Q _ => ∃ (x : Addr) (ad : Nat → Addr) (mo pr bh fh : Addr) (R : RdM) (z : Str) (be : List (Int × Int)) (fi : List (Str × Int)) (d1 d2 : Addr) (rs ss : List (Int × Int)) (l : Int) (ret : Bool) (o : Option Int) (rt2 : Bool) (gs : List (Int × Bool)), vs = [.ref x, .ref d1, .ref d2, .int l, .bl ret] ∧ ProgAt CP H x ad mo pr bh fh R z be fi ∧ H d1 = some (.dK (kI V.int rs)) ∧ H d2 = some (.dK (kI V.int ss)) ∧ Sm2 R ∧ sstepL R be fi rs ss l ret = some (o, rt2, gs) ∧
  ∀ t la gl H', Same H H' → H' t = some (.tup [optI o, .bl rt2, .ref la]) → H' la = some (.lst (gl.map fun g => V.ref g.1)) → GlAt H' gl → gl.map (·.2) = gs → Q (.ref t) H'
theorem ok_shortest_step {f : Addr} {fd : FuncData} (F : Fun K "shortest_step" "shortest_step" s_shortest_step f fd) (T : ShortTxt P K mg CP CM CN CR CO) (c_step_lines : Cal P w K mg base 1 "step_lines" (sp_step CP)) : FnOk P w K mg base (L2.CX P w) 2 f fd P_shortest_step (sp_sstep CP) := by
  refine F.okX sc_shortest_step (fun vs H Q E h => ?_) (fun cdv A outer s H vs Q E hr h => ?_)
  · obtain ⟨x, ad, mo, pr, bh, fh, R, z, be, fi, d1, d2, rs, ss, l, ret, o, rt2, gs, rfl, _⟩ := h
    rfl
  · obtain ⟨x, ad, mo, pr, bh, fh, R, z, be, fi, d1, d2, rs, ss, l, ret, o, rt2, gs, rfl, r, a1, a2, sm2, hs, k⟩ := h
    have Tr := T.pg
    have hu := hu_of hr
    unfold sstepL at hs
    obtain ⟨kd, hk, hs⟩ := Option.bind_eq_some_iff.mp hs
    obtain ⟨dt, hdt, atb⟩ : ∃ dt, dt = (if ret = true then d1 else d2) ∧ H dt = some (.dK (kI V.int (if ret = true then rs else ss))) := by
      cases ret
      · exact ⟨d2, rfl, a2⟩
      · exact ⟨d1, rfl, a1⟩
    refine ⟨_, (pss_cons (ps_set (i := 5) sc_shortest_step.nd rfl (Or.inl rfl) (pe_ifExp (pt_val (pv 4)) (pv 1) (pv 2)))
      (pss_cons (ps_if (pt_cmpR op_eq (pe_dget hu (pe_fld (pv 0) rfl) (pv 3) (fun _ _ => rfl)) pe_str (nomark _)) (pss_cons (ps_par (i := 6) (j := 7) (by rfl) sc_shortest_step.nd rfl rfl (by decide) rfl rfl (pa_cons (pe_dget hu (pe_fld (pv 0) rfl) (pe_dget hu (pe_fld (pv 0) rfl) (pv 3) (fun _ _ => rfl)) (fun _ _ => rfl)) (pa_cons (pe_dget hu (pe_fld (pv 0) rfl) (pv 3) (fun _ _ => rfl)) pa_nil)) (by rfl))
      (pss_cons (ps_if (PW.pt (pw_and (pt_not (pt_val (pv 4))) (pw_and (pt_cmpR op_notN (pe_dget1 hu (pv 2) (pv 6) ⟨rfl, rfl, rfl, rfl⟩) pe_non (nomark _)) (pw_and1 (pt_cmpR op_eq (pe_op op_add (pe_dget hu (pv 2) (pv 6) (fun _ _ => rfl)) pe_int) (pe_dget hu (pv 2) (pv 3) (fun _ _ => rfl)) (nomark _)))))) (pss_one (ps_ret (pe_tup (pa_cons (pv 6) (pa_cons pe_bl (pa_cons (pe_lst pa_nil) pa_nil)))))) pss_nil)
      (pss_one (ps_ret (pe_tup (pa_cons (pv 6) (pa_cons pe_bl (pa_cons (pe_lst (pa_cons (pe_tup (pa_cons (pv 7) (pa_cons (pv 4) pa_nil))) pa_nil)) pa_nil)))))))) pss_nil)
      (pss_cons (ps_for (passes_of rfl) rfl (pi_tup (pe_cc c_step_lines hr (by decide) rfl (pa_cons (pv 0) (pa_cons (pv 3) pa_nil)))) (pg_name (i := 8) sc_shortest_step.nd rfl (Or.inl rfl))
      (pss_one (ps_if (PW.pt (pw_and (pt_cmpR op_notN (pe_dget1 hu (pv 5) (pv 8) ⟨rfl, rfl, rfl, rfl⟩) pe_non (nomark _)) (pw_and1 (pt_cmpR op_eq (pe_op op_add (pe_dget hu (pv 5) (pv 8) (fun _ _ => rfl)) pe_int) (pe_dget hu (pv 5) (pv 3) (fun _ _ => rfl)) (nomark _))))) (pss_one (ps_ret (pe_tup (pa_cons (pv 8) (pa_cons (pv 4) (pa_cons (pe_lst pa_nil) pa_nil)))))) pss_nil)))
      (pss_one (ps_ret (pe_tup (pa_cons pe_non (pa_cons (pv 4) (pa_cons (pe_lst pa_nil) pa_nil))))))))), ?_⟩
    show tSeq _ _ _ [some (V.ref x), some (V.ref d1), some (V.ref d2), some (V.int l), some (V.bl ret), none, none, none, none] H
    walk_at "rd"
    refine x_sel hdt rfl rfl ?_
    clear hdt
    generalize (if ret = true then rs else ss) = tb at atb hs
    walk_at "rd"
    refine r_getI r.t3 hk ?_
    walk_at "rd"
    refine x_D (fun h1 => ?_) (fun h1 => ?_)
    · rw [if_pos (V.str.inj h1)] at hs
      obtain ⟨n, hn, hs⟩ := Option.bind_eq_some_iff.mp hs
      obtain ⟨c, hc, hs⟩ := Option.bind_eq_some_iff.mp hs
      obtain ⟨b, hb, hs⟩ := Option.bind_eq_some_iff.mp hs
      obtain ⟨cb, hcb, hs⟩ := Option.bind_eq_some_iff.mp hs
      walk_at "rd"
      refine r_getI r.t7 hn ?_
      refine r_getS r.hfh hc ?_
      walk_at "rd"
      refine r_getI r.hbh hb ?_
      walk_at "rd"
      refine x_NB (fun h2 => ?_) (fun h2 => ?_)
      · rw [if_neg (by rw [h2]; exact Bool.false_ne_true)] at hcb
        walk_at "rd"
        refine ⟨Or.inl ⟨_, .inl a2⟩, ?_⟩
        walk_at "rd"
        refine ⟨dget_i a2 (valV_kI V.int c ss), ?_⟩
        rw [look_optI]
        cases hm : look ss c with
        | none =>
          rw [hm] at hcb
          cases hcb
          walk_at "rd"
          refine x_cF rfl ?_
          rw [if_neg Bool.false_ne_true] at hs
          cases hs
          walk_at "rd"
          intro p np
          have sp := same_upd (o := .tup [.int b, .bl ret]) np
          have ep : upd H p (.tup [.int b, .bl ret]) p = _ := upd_same
          generalize upd H p _ = H1 at sp ep ⊢
          walk_at "rd"
          intro la nla
          have sl := same_upd (o := .lst [.ref p]) nla
          have el : upd H1 la (.lst [.ref p]) la = _ := upd_same
          replace ep := sl _ _ ep
          replace sp := sp.trans sl
          generalize upd H1 la _ = H2 at sp ep el ⊢
          walk_at "rd"
          intro t nt
          have st := same_upd (o := .tup [.int c, .bl true, .ref la]) nt
          exact k t la [(p, b, ret)] _ (sp.trans st) upd_same (st _ _ el) (fun g hg => by rw [List.mem_singleton.mp hg]; exact st _ _ ep) rfl
        | some m =>
          rw [hm] at hcb
          obtain ⟨m2, hm2, hcb⟩ := Option.bind_eq_some_iff.mp hcb
          cases hcb
          walk_at "rd"
          refine x_cT rfl ?_
          walk_at "rd"
          refine r_getI a2 hm ?_
          walk_at "rd"
          refine r_getI a2 hm2 ?_
          walk_at "rd"
          refine x_D (fun h3 => ?_) (fun h3 => ?_)
          · rw [if_pos (by rw [decide_eq_true (V.int.inj h3)])] at hs
            cases hs
            walk_at "rd"
            intro la nla
            walk_at "rd"
            intro t nt
            have sl := same_upd (o := .lst []) nla
            have s2 := same_upd (o := .tup [.int c, .bl false, .ref la]) nt
            exact k t la [] _ (sl.trans s2) upd_same (s2 _ _ upd_same) (fun g hg => by cases hg) rfl
          · rw [if_neg (by rw [decide_eq_false fun q => h3 (congrArg V.int q)]; exact Bool.false_ne_true)] at hs
            cases hs
            walk_at "rd"
            intro p np
            have sp := same_upd (o := .tup [.int b, .bl ret]) np
            have ep : upd H p (.tup [.int b, .bl ret]) p = _ := upd_same
            generalize upd H p _ = H1 at sp ep ⊢
            walk_at "rd"
            intro la nla
            have sl := same_upd (o := .lst [.ref p]) nla
            have el : upd H1 la (.lst [.ref p]) la = _ := upd_same
            replace ep := sl _ _ ep
            replace sp := sp.trans sl
            generalize upd H1 la _ = H2 at sp ep el ⊢
            walk_at "rd"
            intro t nt
            have st := same_upd (o := .tup [.int c, .bl true, .ref la]) nt
            exact k t la [(p, b, ret)] _ (sp.trans st) upd_same (st _ _ el) (fun g hg => by rw [List.mem_singleton.mp hg]; exact st _ _ ep) rfl
      · rw [if_pos h2] at hcb
        cases hcb
        rw [if_neg Bool.false_ne_true] at hs
        cases hs
        walk_at "rd"
        intro p np
        have sp := same_upd (o := .tup [.int b, .bl ret]) np
        have ep : upd H p (.tup [.int b, .bl ret]) p = _ := upd_same
        generalize upd H p _ = H1 at sp ep ⊢
        walk_at "rd"
        intro la nla
        have sl := same_upd (o := .lst [.ref p]) nla
        have el : upd H1 la (.lst [.ref p]) la = _ := upd_same
        replace ep := sl _ _ ep
        replace sp := sp.trans sl
        generalize upd H1 la _ = H2 at sp ep el ⊢
        walk_at "rd"
        intro t nt
        have st := same_upd (o := .tup [.int c, .bl true, .ref la]) nt
        exact k t la [(p, b, ret)] _ (sp.trans st) upd_same (st _ _ el) (fun g hg => by rw [List.mem_singleton.mp hg]; exact st _ _ ep) rfl
    · rw [if_neg fun q => h1 (congrArg V.str q)] at hs
      obtain ⟨xs, hxs, hs⟩ := Option.bind_eq_some_iff.mp hs
      obtain ⟨ov, hov, hs⟩ := Option.bind_eq_some_iff.mp hs
      walk_at "rd"
      refine ⟨x, ad, mo, pr, bh, fh, R, z, be, fi, l, xs, rfl, r, hxs, sm2, fun t H1 s1 e1 => ?_⟩
      have hxl := stepL_len sm2 hxs
      replace atb := s1 _ _ atb
      walk_at "rd"
      refine ⟨⟨_, SqT.of e1⟩, for_it (walk_tup (xs := xs.map V.int)) (fun i σ H' => Hold (∃ x6 x7 x8 : Option V, σ = [some (V.ref x), some (V.ref d1), some (V.ref d2), some (V.int l), some (V.bl ret), some (V.ref dt), x6, x7, x8] ∧ H' = H1 ∧ nextL tb l (xs.drop i) = some ov))
        ⟨_, _, _, rfl, rfl, hov⟩ (fun i σ H' _ ⟨_, _, _, _, e, _⟩ => e ▸ SqT.of e1) ?_ ?_⟩
      · rintro i v σ H' H'' hi ⟨x6, x7, x8, rfl, rfl, hn⟩ ⟨rfl, hv⟩
        rw [List.getElem?_map] at hv
        obtain ⟨b, hb, rfl⟩ := Option.map_eq_some_iff.mp hv
        rw [drop_at hb] at hn
        unfold nextL at hn
        walk_at "rd"
        refine ⟨Or.inl ⟨_, .inl atb⟩, ?_⟩
        walk_at "rd"
        refine ⟨dget_i atb (valV_kI V.int b tb), ?_⟩
        rw [look_optI]
        cases hm : look tb b with
        | none =>
          rw [hm] at hn
          walk_at "rd"
          refine x_cF rfl ?_
          walk_at "rd"
          exact ⟨_, _, _, rfl, rfl, hn⟩
        | some m =>
          rw [hm] at hn
          obtain ⟨m2, hm2, hn⟩ := Option.bind_eq_some_iff.mp hn
          walk_at "rd"
          refine x_cT rfl ?_
          walk_at "rd"
          refine r_getI atb hm ?_
          walk_at "rd"
          refine r_getI atb hm2 ?_
          walk_at "rd"
          refine x_D (fun h3 => ?_) (fun h3 => ?_)
          · rw [if_pos (V.int.inj h3)] at hn
            cases hn
            cases hs
            walk_at "rd"
            intro la nla
            walk_at "rd"
            intro t2 nt2
            have sl := same_upd (o := .lst []) nla
            have s2 := same_upd (o := .tup [.int b, .bl ret, .ref la]) nt2
            exact k t2 la [] _ ((s1.trans sl).trans s2) upd_same (s2 _ _ upd_same) (fun g hg => by cases hg) rfl
          · rw [if_neg fun q => h3 (congrArg V.int q)] at hn
            walk_at "rd"
            exact ⟨_, _, _, rfl, rfl, hn⟩
      · rintro σ H' ⟨x6, x7, x8, rfl, rfl, hn⟩
        rw [List.length_map, List.drop_of_length_le (Nat.le_refl _)] at hn
        cases hn
        cases hs
        walk_at "rd"
        intro la nla
        walk_at "rd"
        intro t2 nt2
        have sl := same_upd (o := .lst []) nla
        have s2 := same_upd (o := .tup [.non, .bl ret, .ref la]) nt2
        exact k t2 la [] _ ((s1.trans sl).trans s2) upd_same (s2 _ _ upd_same) (fun g hg => by cases hg) rfl
end
end MP
end
section
open PySem L2 MPX MP
local macro_rules | `(tactic| walk_at "rd1") => `(tactic| first
  | with_reducible refine x_seq ?_
  | with_reducible refine x_next ?_
  | with_reducible refine x_ret ?_
  | with_reducible refine x_retN ?_
  | with_reducible refine x_ifs ?_
  | with_reducible refine x_asg ?_
  | with_reducible refine x_drop ?_
  | with_reducible refine x_name ?_
  | ((with_reducible refine' x_var ?vv ?_); (case vv => exact rfl))
  | with_reducible refine x_c ?_
  | with_reducible refine x_op ?_
  | with_reducible refine x_un ?_
  | with_reducible refine x_test ?_
  | with_reducible refine x_tB ?_
  | with_reducible refine x_and ?_
  | with_reducible refine x_or ?_
  | with_reducible refine x_not ?_
  | with_reducible refine x_andV ?_
  | with_reducible refine x_orV ?_
  | with_reducible refine x_notV ?_
  | with_reducible refine x_if ?_
  | with_reducible refine x_nil ?_
  | with_reducible refine x_cons ?_
  | with_reducible refine x_tup ?_
  | with_reducible refine x_lst ?_
  | with_reducible refine x_cb ?_
  | with_reducible refine x_call ?_
  | with_reducible refine x_callS ?_
  | with_reducible refine x_callP ?_
  | with_reducible refine x_mk0 ?_
  | with_reducible refine x_mk1 ?_
  | with_reducible refine x_mk2 ?_
  | with_reducible refine x_make ?_
  | with_reducible refine x_sfld ?_
  | with_reducible refine x_din ?_
  | with_reducible refine x_dnin ?_
  | with_reducible refine x_fldS ?_
  | with_reducible refine x_sl3 ?_
  | ((with_reducible refine' r_pg ?vr ?vt ?vm ?vl ?vq); (case vr => (with_reducible assumption)); (case vt => assumption); (case vm => decide +kernel); (case vl => exact rfl))
  | with_reducible refine x_m0 ?_
  | with_reducible refine x_m1 ?_
  | with_reducible refine x_bm0 ?_
  | with_reducible refine x_bm ?_
  | with_reducible refine x_par ?_
  | with_reducible refine x_ilist ?_
  | with_reducible refine x_itup ?_
  | with_reducible refine x_istr ?_
  | ((with_reducible show tLc _ _ _ _ _ _ _ _); unfold tLc)
  | ((with_reducible show tFor _ _ _ _ _ _); unfold tFor)
  | ((with_reducible refine' x_eq ?vv ?_); (case vv => exact rfl))
  | ((with_reducible refine' x_ne ?vv ?_); (case vv => exact rfl))
  | with_reducible refine x_rI0 ?_
  | with_reducible refine x_dgetR ?_
  | with_reducible refine x_dputR ?_
  | with_reducible refine x_dnew ?_
  | with_reducible refine x_dget1 ?_
  | with_reducible refine x_dget2 ?_
  | with_reducible refine x_sl ?_
  | with_reducible refine x_nopart ?_
  | with_reducible refine x_part ?_
  | ((with_reducible refine' x_slL ?vv ?_); (case vv => (with_reducible assumption)))
  | with_reducible refine x_disp ?_
  | with_reducible refine x_pcons ?_
  | with_reducible refine x_pnil ?_
  | ((with_reducible refine' x_mod ?vv ?_); (case vv => omega); intro r er hr0 hr1; (try clear er))
  | ((with_reducible refine' x_rI ?vv ?_); (case vv => walk_at "sc"))
  | (with_reducible refine Or.inl (Exists.intro _ (And.intro rfl ?_)))
  | with_reducible refine x_T ?_
  | with_reducible refine x_F ?_
  | ((with_reducible show Exists (α := V) _); (with_reducible apply Exists.intro))
  | ((with_reducible show Exists (α := Bool) _); (with_reducible apply Exists.intro))
  | ((with_reducible show Exists (α := Nat) _); (with_reducible apply Exists.intro))
  | ((with_reducible show Exists (α := Int) _); (with_reducible apply Exists.intro))
  | ((with_reducible show Exists (α := List V) _); (with_reducible apply Exists.intro))
  | ((with_reducible show Exists (α := PySem.Str) _); (with_reducible apply Exists.intro))
  | ((with_reducible show Exists (α := Option V) _); (with_reducible apply Exists.intro))
  | ((with_reducible show Exists (α := Option Int) _); (with_reducible apply Exists.intro))
  | ((with_reducible show Exists (α := List (Key × V)) _); (with_reducible apply Exists.intro))
  | refine And.intro rfl ?_
  | ((with_reducible refine And.intro ?vv ?_); (case vv => (first | (with_reducible assumption) | (show _ ≤ sizeLine; decide) | exact len_ok rfl)))
  | (refine And.intro (Exists.intro _ rfl) ?_))
local macro_rules | `(tactic| walk_at "sc") => `(tactic| first
  | (with_reducible assumption)
  | exact divW (by omega) (by omega)
  | exact mulW (by omega) (by omega)
  | exact Or.inl ⟨by omega, by omega⟩
  | exact Or.inr ⟨by omega, by omega⟩
  | (show (_ : Int) ≠ 0; omega)
  | exact ⟨by decide, by decide, by decide⟩
  | decide)
local macro_rules | `(tactic| walk_at "rd") => `(tactic| repeat walk_at "rd1")
namespace MP
open PySem L2 StX
section
variable {P : Program} {w : World} {K : PySem.W.Frag} {mg : Str → Option Value} {base : Heap} {ts : Nat → Tok} {CP CM CN CR CO : Addr}
abbrev s_shortest_lines : Stmt := topS 57
abbrev N_shortest_lines : List Str := ["program", "returns", "stops", "line", "best", "lines", "goals", "returning", "later"]
abbrev P_shortest_lines : List Str := ["program"]
theorem sc_shortest_lines : FnScope N_shortest_lines P_shortest_lines (defScope s_shortest_lines) := ⟨rfl, rfl, rfl, by decide +kernel, rfl, by decide +kernel, by decide +kernel⟩
abbrev s_Run_shortest : Stmt := inClass (topS 46) 1
abbrev N_Run_shortest : List Str := ["program"]
abbrev P_Run_shortest : List Str := ["program"]
theorem sc_Run_shortest : FnScope N_Run_shortest P_Run_shortest (defScope s_Run_shortest) := ⟨rfl, rfl, rfl, by decide +kernel, rfl, by decide +kernel, by decide +kernel⟩
theorem x_gtup3 {K : PySem.W.Frag} {T : Addr} {x y z : V} {i j k : Nat} {σ : L2.St} {H : Hp} {Q : L2.St → Hp → Prop} (h : H T = some (.tup [x, y, z])) (q : Q (((σ.set i (some x)).set j (some y)).set k (some z)) H) : gTup K 3 (gCons (gName i) (gCons (gName j) (gCons (gName k) gNil))) (.ref T) σ H Q :=
  ⟨T, [x, y, z], rfl, SqT.of h, rfl, x, [y, z], rfl, y, [z], rfl, z, [], rfl, rfl, q⟩
theorem sstepL_gs {R : RdM} {be : List (Int × Int)} {fi : List (Str × Int)} {rs ss : List (Int × Int)} {l : Int} {ret : Bool} {o : Option Int} {r2 : Bool} {gs : List (Int × Bool)} (h : sstepL R be fi rs ss l ret = some (o, r2, gs)) : gs.length ≤ 1 := by
  unfold sstepL at h
  obtain ⟨kd, hk, h⟩ := Option.bind_eq_some_iff.mp h
  split at h
  · obtain ⟨n, hn, h⟩ := Option.bind_eq_some_iff.mp h
    obtain ⟨c, hc, h⟩ := Option.bind_eq_some_iff.mp h
    obtain ⟨b, hb, h⟩ := Option.bind_eq_some_iff.mp h
    obtain ⟨cb, hcb, h⟩ := Option.bind_eq_some_iff.mp h
    split at h <;> (cases h; simp)
  · obtain ⟨xs, hxs, h⟩ := Option.bind_eq_some_iff.mp h
    obtain ⟨ov, hov, h⟩ := Option.bind_eq_some_iff.mp h
    cases ov <;> (cases h; simp)
def LinW (R : RdM) (be : List (Int × Int)) (fi : List (Str × Int)) (rs ss : List (Int × Int)) (ls : List Int) (M : Nat) (bv : V) (x d1 d2 lp gp : Addr) (H : Hp) (m : Nat) (σ : L2.St) (H' : Hp) : Prop := ∃ (x3 x7 x8 : Option V) (gl : List (Addr × Int × Bool)) (lsn : List Int) (rt : Bool), σ = [some (V.ref x), some (V.ref d1), some (V.ref d2), x3, some bv, some (V.ref lp), some (V.ref gp), x7, x8] ∧ Same H H' ∧
  H' lp = some (.lst (lsn.map V.int)) ∧ H' gp = some (.lst (gl.map fun g => V.ref g.1)) ∧ GlAt H' gl ∧ linesL R be fi rs ss m none rt (gl.map (·.2)) lsn = some ls ∧ lsn.length + m ≤ M ∧ gl.length + m ≤ M + 1
def LinI (R : RdM) (be : List (Int × Int)) (fi : List (Str × Int)) (rs ss : List (Int × Int)) (ls : List Int) (M k : Nat) (bv : V) (x d1 d2 lp gp : Addr) (H : Hp) (m : Nat) (σ : L2.St) (H' : Hp) : Prop := ∃ (cur : Option Int) (x8 : Option V) (gl : List (Addr × Int × Bool)) (lsn : List Int) (rt : Bool), σ = [some (V.ref x), some (V.ref d1), some (V.ref d2), some (optI cur), some bv, some (V.ref lp), some (V.ref gp), some (V.bl rt), x8] ∧ Same H H' ∧
  H' lp = some (.lst (lsn.map V.int)) ∧ H' gp = some (.lst (gl.map fun g => V.ref g.1)) ∧ GlAt H' gl ∧ linesL R be fi rs ss m cur rt (gl.map (·.2)) lsn = some ls ∧ lsn.length + m ≤ M ∧ gl.length + m ≤ M + 1 ∧ m ≤ k
def sp_slines (CP : Addr) : Sp := fun vs H Q _ => ∃ (x : Addr) (ad : Nat → Addr) (mo pr bh fh : Addr) (R : RdM) (z : Str) (be : List (Int × Int)) (fi : List (Str × Int)) (n M : Nat) (rs ss : List (Int × Int)) (fl b : Int) (ls : List Int), vs = [.ref x] ∧ ProgAt CP H x ad mo pr bh fh R z be fi ∧ H (ad 4) = some (.dK (kI V.str R.owners)) ∧ Sm2 R ∧ n * R.owners.length < 90000 ∧ tabsL R be fi n [] [] = some (rs, ss) ∧
  look fi ("main" : Str) = some fl ∧ leastL [look rs fl, look ss fl] = some b ∧ M < 90000 ∧ linesL R be fi rs ss M none false [(fl, decide (look rs fl = some b))] [] = some ls ∧ ∀ la H', Same H H' → H' la = some (.lst (ls.map V.int)) → Q (.ref la) H'
theorem ok_shortest_lines {f : Addr} {fd : FuncData} (F : Fun K "shortest_lines" "shortest_lines" s_shortest_lines f fd) (T : ShortTxt P K mg CP CM CN CR CO) (c_shortest_tables : Cal P w K mg base 3 "shortest_tables" (sp_tabs CP)) (c_shortest_step : Cal P w K mg base 2 "shortest_step" (sp_sstep CP)) (c_least_of : Cal P w K mg base 1 "least_of" (sp_least K)) : FnOk P w K mg base (L2.CX P w) 4 f fd P_shortest_lines (sp_slines CP) := by
  refine F.okX sc_shortest_lines (fun vs H Q E h => ?_) (fun cdv A outer s H vs Q E hr h => ?_)
  · obtain ⟨x, ad, mo, pr, bh, fh, R, z, be, fi, n, M, rs, ss, fl, b, ls, rfl, _⟩ := h
    rfl
  · obtain ⟨x, ad, mo, pr, bh, fh, R, z, be, fi, n, M, rs, ss, fl, b, ls, rfl, r, hown, sm2, hn, hT, hfl, hb, hM, hL, k⟩ := h
    have Tr := T.pg
    have hu := hu_of hr
    refine ⟨_, (pss_cons (ps_asg (pe_cc c_shortest_tables hr (by decide) rfl (pa_cons (pv 0) pa_nil)) (pg_tup rfl (pgs_cons (pg_name (i := 1) sc_shortest_lines.nd rfl (Or.inl rfl)) (pgs_cons (pg_name (i := 2) sc_shortest_lines.nd rfl (Or.inl rfl)) pgs_nil))))
      (pss_cons (ps_set (i := 3) sc_shortest_lines.nd rfl (Or.inl rfl) (pe_dget hu (pe_fld (pv 0) rfl) pe_str (fun _ _ => rfl)))
      (pss_cons (ps_set (i := 4) sc_shortest_lines.nd rfl (Or.inl rfl) (pe_cc c_least_of hr (by decide) rfl (pa_cons (pe_lst (pa_cons (pe_dget1 hu (pv 1) (pv 3) ⟨rfl, rfl, rfl, rfl⟩) (pa_cons (pe_dget1 hu (pv 2) (pv 3) ⟨rfl, rfl, rfl, rfl⟩) pa_nil))) pa_nil)))
      (pss_cons (ps_if (pt_cmpR op_isN (pv 4) pe_non (nomark _)) (pss_one (ps_raise rfl (takes_of rfl rfl rfl rfl) (pmk_x0 T.e_NoRun hr rfl))) pss_nil)
      (pss_cons (ps_set (i := 5) sc_shortest_lines.nd rfl (Or.inl rfl) (pe_lst pa_nil))
      (pss_cons (ps_set (i := 6) sc_shortest_lines.nd rfl (Or.inl rfl) (pe_lst (pa_cons (pe_tup (pa_cons (pv 3) (pa_cons (pe_cmpR op_eq (pe_dget1 hu (pv 1) (pv 3) ⟨rfl, rfl, rfl, rfl⟩) (pv 4) (nomark _)) pa_nil))) pa_nil)))
      (pss_cons (ps_while (passes_of rfl) (pt_cmpR op_gt (pe_callB call_len_seq (by rfl) T.b_len (by decide +kernel) (pa_cons (pv 6) pa_nil)) pe_int (nomark _)) (pss_cons (ps_asg (pe_bm0 PySem.F.plainAttrs_list PySem.F.slot_list_pop PySem.F.type_list_pop mt_pop (pv 6)) (pg_tup rfl (pgs_cons (pg_name (i := 3) sc_shortest_lines.nd rfl (Or.inl rfl)) (pgs_cons (pg_name (i := 7) sc_shortest_lines.nd rfl (Or.inl rfl)) pgs_nil))))
      (pss_one (ps_while (passes_of rfl) (pt_cmpR op_notN (pv 3) pe_non (nomark _)) (pss_cons (ps_expr (pe_bm PySem.F.plainAttrs_list PySem.F.slot_list_append PySem.F.type_list_append mt_append (pv 5) (pa_cons (pv 3) pa_nil)))
        (pss_cons (ps_asg (pe_cc c_shortest_step hr (by decide) rfl (pa_cons (pv 0) (pa_cons (pv 1) (pa_cons (pv 2) (pa_cons (pv 3) (pa_cons (pv 7) pa_nil)))))) (pg_tup rfl (pgs_cons (pg_name (i := 3) sc_shortest_lines.nd rfl (Or.inl rfl)) (pgs_cons (pg_name (i := 7) sc_shortest_lines.nd rfl (Or.inl rfl)) (pgs_cons (pg_name (i := 8) sc_shortest_lines.nd rfl (Or.inl rfl)) pgs_nil)))))
        (pss_one (ps_expr (pe_bm PySem.F.plainAttrs_list PySem.F.slot_list_extend PySem.F.type_list_extend mt_extend (pv 6) (pa_cons (pv 8) pa_nil))))))))))
      (pss_one (ps_ret (pv 5)))))))))), ?_⟩
    show tSeq _ _ _ [some (V.ref x), none, none, none, none, none, none, none, none] H
    walk_at "rd"
    refine ⟨x, ad, mo, pr, bh, fh, R, z, be, fi, n, rs, ss, rfl, r, hown, sm2, hn, hT, fun t d1 d2 H1 s1 et a1 a2 => ?_⟩
    refine x_gtup2 et ?_
    replace r := r.same s1
    clear et hown
    walk_at "rd"
    refine r_getS r.hfh hfl ?_
    walk_at "rd"
    refine ⟨Or.inl ⟨_, .inl a1⟩, ?_⟩
    walk_at "rd"
    refine ⟨dget_i a1 (valV_kI V.int fl rs), ?_⟩
    rw [look_optI]
    walk_at "rd"
    refine ⟨Or.inl ⟨_, .inl a2⟩, ?_⟩
    walk_at "rd"
    refine ⟨dget_i a2 (valV_kI V.int fl ss), ?_⟩
    rw [look_optI]
    walk_at "rd"
    intro p np
    refine ⟨p, [look rs fl, look ss fl], rfl, SqL.of upd_same, by simp, fun H2 s2 => ?_⟩
    replace s2 := (same_upd np).trans s2
    replace r := r.same s2
    replace a1 := s2 _ _ a1
    replace a2 := s2 _ _ a2
    replace s1 := s1.trans s2
    clear s2 np
    rw [hb]
    walk_at "rd"
    refine x_cF rfl ?_
    walk_at "rd"
    intro lp nlp
    have s3 := same_upd (o := .lst []) nlp
    have el : upd H2 lp (.lst []) lp = some (.lst (([] : List Int).map V.int)) := upd_same
    generalize upd H2 lp (.lst []) = H3 at s3 el ⊢
    walk_at "rd"
    refine ⟨Or.inl ⟨_, .inl (s3 _ _ a1)⟩, ?_⟩
    walk_at "rd"
    refine ⟨dget_i (s3 _ _ a1) (valV_kI V.int fl rs), ?_⟩
    rw [look_optI]
    have hsc : scal (optI (look rs fl)) (optI (some b)) = true := by cases look rs fl <;> rfl
    have hde : decide (optI (look rs fl) = optI (some b)) = decide (look rs fl = some b) := by
      cases h : look rs fl with
      | none => rfl
      | some w =>
        by_cases q : w = b
        · rw [q]
          exact (decide_eq_true rfl).trans (decide_eq_true rfl).symm
        · exact (decide_eq_false fun e => q (V.int.inj e)).trans (decide_eq_false fun e => q (Option.some.inj e)).symm
    refine x_var rfl ?_
    refine x_eq hsc ?_
    rw [hde]
    walk_at "rd"
    intro tp ntp
    have s4 := same_upd (o := .tup [.int fl, .bl (decide (look rs fl = some b))]) ntp
    have et : upd H3 tp (.tup [.int fl, .bl (decide (look rs fl = some b))]) tp = _ := upd_same
    replace el := s4 _ _ el
    replace s3 := s3.trans s4
    generalize upd H3 tp _ = H4 at s3 el et ⊢
    clear s4
    walk_at "rd"
    intro gp ngp
    have s5 := same_upd (o := .lst [.ref tp]) ngp
    have eg : upd H4 gp (.lst [.ref tp]) gp = _ := upd_same
    have hlg := ne_of_none el ngp
    replace el := s5 _ _ el
    replace et := s5 _ _ et
    have ngp0 := none_of_same s3 ngp
    have slg := s3.trans s5
    generalize upd H4 gp _ = H5 at slg el eg et ⊢
    clear s3 s5
    walk_at "rd"
    refine ⟨fun m σ H' => Hold (LinW R be fi rs ss ls M (optI (some b)) x d1 d2 lp gp H2 m σ H'), ⟨M, ⟨_, _, _, [(tp, fl, decide (look rs fl = some b))], [], false, rfl, slg, el, eg, fun g hg => by rw [List.mem_singleton.mp hg]; exact et, hL, by simp, by simp [Nat.add_comm]⟩⟩, ?_⟩
    clear el eg et slg hL hde hsc
    rintro m σ H' ⟨x3, x7, x8, gl, lsn, rt, rfl, s, el, eg, hg, hL, l1, l2⟩
    walk_at "rd"
    refine ⟨Or.inl (SqL.of eg), ?_⟩
    walk_at "rd"
    rw [List.length_map]
    refine x_D (fun h1 => ?_) (fun h1 => ?_)
    · cases m with
      | zero => cases hL
      | succ m =>
        cases hla : gl.getLast? with
        | none =>
          rw [List.getLast?_eq_none_iff] at hla
          rw [hla] at h1
          exact absurd h1 (by decide)
        | some g =>
          have hgm := List.mem_of_getLast? hla
          have hL2 : linesL R be fi rs ss m (some g.2.1) g.2.2 (gl.dropLast.map (·.2)) lsn = some ls := by
            unfold linesL at hL
            rw [List.getLast?_map, hla, ← List.map_dropLast] at hL
            exact hL
          refine ⟨fun σ' H'' => ∃ m', m' < m + 1 ∧ Hold (LinW R be fi rs ss ls M (optI (some b)) x d1 d2 lp gp H2 m' σ' H''), fun _ _ h => h, ?_⟩
          walk_at "rd"
          refine ⟨Or.inl ⟨rfl, _, SqL.of eg⟩, gp, gl.map fun g => V.ref g.1, V.ref g.1, rfl, rfl, eg, by rw [← List.getLast?_eq_getElem?, List.getLast?_map, hla]; rfl, ?_⟩
          have s6 := same_at (u := .lst ((gl.map fun g => V.ref g.1).dropLast)) s ngp0
          have eg6 : upd H' gp (.lst ((gl.map fun g => V.ref g.1).dropLast)) gp = some (.lst (gl.dropLast.map fun g => V.ref g.1)) := by rw [upd_same, List.map_dropLast]
          have el6 : upd H' gp (.lst ((gl.map fun g => V.ref g.1).dropLast)) lp = _ := (upd_ne hlg).trans el
          have hg6 : GlAt (upd H' gp (.lst ((gl.map fun g => V.ref g.1).dropLast))) gl := fun y hy => by
            rw [upd_ne (ne_of (hg y hy) eg fun z => by cases z)]
            exact hg y hy
          generalize upd H' gp _ = H6 at s6 eg6 el6 hg6 ⊢
          refine x_gtup2 (hg6 g hgm) ?_
          walk_at "rd"
          refine ⟨fun j σ H' => Hold (LinI R be fi rs ss ls M m (optI (some b)) x d1 d2 lp gp H2 j σ H'), ⟨m, ⟨some g.2.1, _, gl.dropLast, lsn, g.2.2, rfl, s6, el6, eg6, fun y hy => hg6 y (List.dropLast_subset _ hy), hL2, by omega, by rw [List.length_dropLast]; omega, Nat.le_refl _⟩⟩, ?_⟩
          clear s6 eg6 el6 hg6 hL2 hgm hla hL hg el eg s l1 l2 h1
          rintro j σ H' ⟨cur, x8, gl, lsn, rt, rfl, s, el, eg, hg, hL, l1, l2, hj⟩
          walk_at "rd"
          cases cur with
          | none =>
            refine x_cF rfl ?_
            exact ⟨j, Nat.lt_succ_of_le hj, ⟨_, _, _, gl, lsn, rt, rfl, s, el, eg, hg, hL, l1, l2⟩⟩
          | some l =>
            refine x_cT rfl ?_
            cases j with
            | zero => cases hL
            | succ j =>
              unfold linesL at hL
              obtain ⟨st, hst, hL⟩ := Option.bind_eq_some_iff.mp hL
              obtain ⟨o2, rt2, gs⟩ := st
              refine ⟨fun σ' H'' => Hold (LinI R be fi rs ss ls M m (optI (some b)) x d1 d2 lp gp H2 j σ' H''), fun _ _ h => ⟨j, Nat.lt_succ_self _, h⟩, ?_⟩
              walk_at "rd"
              refine ⟨Or.inl ⟨rfl, _, SqL.of el⟩, ?_⟩
              walk_at "rd"
              refine ⟨lp, _, V.int l, rfl, rfl, el, ?_, ?_⟩
              · rw [List.length_map]
                have := big5
                omega
              have s7 := same_at (u := .lst (lsn.map V.int ++ [V.int l])) s nlp
              have el7 : upd H' lp (.lst (lsn.map V.int ++ [V.int l])) lp = some (.lst ((lsn ++ [l]).map V.int)) := by rw [upd_same, List.map_append]; rfl
              have eg7 : upd H' lp (.lst (lsn.map V.int ++ [V.int l])) gp = _ := (upd_ne (Ne.symm hlg)).trans eg
              have hg7 : GlAt (upd H' lp (.lst (lsn.map V.int ++ [V.int l]))) gl := fun y hy => by
                rw [upd_ne (ne_of (hg y hy) el fun z => by cases z)]
                exact hg y hy
              generalize upd H' lp _ = H7 at s7 el7 eg7 hg7 ⊢
              have r7 := r.same s7
              walk_at "rd"
              refine ⟨x, ad, mo, pr, bh, fh, R, z, be, fi, d1, d2, rs, ss, l, rt, o2, rt2, gs, rfl, r7, s7 _ _ a1, s7 _ _ a2, sm2, hst, fun t la gl2 H8 s8 et8 ela hg8 hgs => ?_⟩
              refine x_gtup3 et8 ?_
              walk_at "rd"
              have hgl := sstepL_gs hst
              have hgl2 : gl2.length ≤ 1 := by rw [← hgs, List.length_map] at hgl; exact hgl
              refine ⟨Or.inl ⟨rfl, _, SqL.of (s8 _ _ eg7)⟩, ?_⟩
              walk_at "rd"
              refine ⟨gp, la, gl.map (fun g => V.ref g.1), gl2.map (fun g => V.ref g.1), rfl, rfl, s8 _ _ eg7, ela, ?_, ?_⟩
              · rw [List.length_map, List.length_map]
                have := big5
                omega
              have eg8 := s8 _ _ eg7
              walk_at "rd"
              refine ⟨o2, _, gl ++ gl2, lsn ++ [l], rt2, rfl, same_at (s7.trans s8) ngp0, (upd_ne hlg).trans (s8 _ _ el7), by rw [upd_same, List.map_append], fun y hy => ?_, by rw [List.map_append, hgs]; exact hL, by rw [List.length_append]; simp; omega, by rw [List.length_append]; omega, by omega⟩
              rcases List.mem_append.mp hy with hy | hy
              · rw [upd_ne (ne_of (s8 _ _ (hg7 y hy)) eg8 fun z => by cases z)]
                exact s8 _ _ (hg7 y hy)
              · rw [upd_ne (ne_of (hg8 y hy) eg8 fun z => by cases z)]
                exact hg8 y hy
    · have hgl0 : gl = [] := List.eq_nil_of_length_eq_zero (by omega)
      subst hgl0
      cases m with
      | zero => cases hL
      | succ m =>
        have e : lsn = ls := Option.some.inj hL
        subst e
        walk_at "rd"
        exact k lp _ (s1.trans s) el
end
end MP
end
section
namespace MP
open PySem PySem.Spec PyProof.Rows L2 ClX
/-! ### methods by keywords, static methods, len of an own thing -/
def tMethK (C : Addr) (m : Str) (sp : Sp) (gV : List V → List V → List V) (E : XK) (ta : TE) (tk : TA) : TE := fun σ H Q => ta σ H fun x H1 => ∃ a dx fs, x = .ref a ∧ H1 a = some (.ins C dx fs) ∧ fs.lookup m = none ∧ tk σ H1 fun zs H2 => sp (gV [.ref a] zs) H2 Q E
def tStatK (C : Addr) (sp : Sp) (gV : List V → List V → List V) (E : XK) (ta : TE) (tk : TA) : TE := fun σ H Q => ta σ H fun x H1 => x = .ref C ∧ tk σ H1 fun zs H2 => sp (gV [] zs) H2 Q E
/-- C.m is a static method: its record at p, its def at g -/
structure SMet (K : PySem.W.Frag) (C : Addr) (mc : Value) (m : Str) (p g : Addr) : Prop where
  at_ : PySem.W.findCls K (.ref C) mc m = some (.get (.builtin "staticmethod.__get__") (.ref p) .none (.ref C))
  rc : ∃ rest, PySem.W.recIn K p "staticmethod" = some (.ref g :: rest)
  kp : PySem.W.keepIn K (.ref g) = true
section
variable {X : Cx} {CX : CXT} {k : Nat} {f C p g : Addr} {mc : Value} {fd : FuncData} {ps ks : List Str} {sp : Sp} {E : XK} {m : Str} {o : Expr} {apos pos : Pos} {kws : List Keyword} {ta : TE} {tk : TA} {gs : List Value → List Value → List Value} {gV : List V → List V → List V}
theorem pe_methK {pl : Sem Bool} (he : PE X o ta) (c : Cls X.K C) (hm : Meth X.K C m f) (F : FnOk X.prog X.w X.K X.mg X.base CX k f fd ps sp) (hr : Room k X.A) (hb : KBinds X.K fd ps ks gs gV) (hx : Passes CX X E) (hkw : PK X kws tk)
    (hall : (backToKw pos (keywordEach kws X.env)).all (·.1.isSome) = true := by rfl) (hks : (backToKw pos (keywordEach kws X.env)).filterMap (·.1) = ks := by rfl) (hpl : ((backTo pos (starEach [] X.env)).any (·.1) || (backToKw pos (keywordEach kws X.env)).any (·.1.isNone)) = false := by rfl)
    (ht : eval (.Call (.Attribute o m apos) [] kws pos) X.env = (do
      let ov ← eval o X.env
      standAt apos.atName
      let (f, first) ← holding [ov] (getMethod ov m pl)
      callWith pos f first (backTo pos (starEach [] X.env)) (backToKw pos (keywordEach kws X.env))) := by rfl) :
    PE X (.Call (.Attribute o m apos) [] kws pos) (tMethK C m sp gV E ta tk) := by
  refine ⟨fun pins s σ H Q I h => PySem.W.methodCall_KW (pl := pl) (thn (he.run pins s σ H _ I h) fun u s1 ⟨x, H1, I1, rx, a, dx, fs, ex, ea, l, q⟩ => ?_) ht⟩
  subst ex
  obtain rfl : u = Value.ref a := rx
  refine getmeth_ok I1 ea c hm l (PySem.W.callWith_KW0 (first := [.ref a]) (h₀ := X.base) I.ok.mod.kin hm.kp hall (thn (hkw.run pos pins s1 σ H1 _ I1 q) fun ws s2 ⟨zs, H2, I2, rz, q2⟩ => ⟨I2.kIn, ?_⟩) hpl)
  rw [hks]
  exact run_fnk (us := [.ref a]) (vs := [.ref a]) F hr hb hx I2 (.cons rfl .nil) rz q2
theorem pe_statK {pl : Sem Bool} (he : PE X o ta) (r : CRead X.K C mc) (c : SMet X.K C mc m p f) (F : FnOk X.prog X.w X.K X.mg X.base CX k f fd ps sp) (hr : Room k X.A) (hb : KBinds X.K fd ps ks gs gV) (hx : Passes CX X E) (hkw : PK X kws tk)
    (hall : (backToKw pos (keywordEach kws X.env)).all (·.1.isSome) = true := by rfl) (hks : (backToKw pos (keywordEach kws X.env)).filterMap (·.1) = ks := by rfl) (hpl : ((backTo pos (starEach [] X.env)).any (·.1) || (backToKw pos (keywordEach kws X.env)).any (·.1.isNone)) = false := by rfl)
    (ht : eval (.Call (.Attribute o m apos) [] kws pos) X.env = (do
      let ov ← eval o X.env
      standAt apos.atName
      let (f, first) ← holding [ov] (getMethod ov m pl)
      callWith pos f first (backTo pos (starEach [] X.env)) (backToKw pos (keywordEach kws X.env))) := by rfl) :
    PE X (.Call (.Attribute o m apos) [] kws pos) (tStatK C sp gV E ta tk) := by
  refine ⟨fun pins s σ H Q I h => PySem.W.methodCall_KW (pl := pl) (thn (he.run pins s σ H _ I h) fun u s1 ⟨x, H1, I1, rx, ex, q⟩ => ?_) ht⟩
  subst ex
  obtain rfl : u = Value.ref C := rx
  obtain ⟨rest, hp⟩ := c.rc
  refine PySem.W.method_cls I1.kIn r.ga (PySem.W.cls_bind I1.kIn r.rd c.at_ (wpAny_call (PySem.W.sm_get (s := { s1 with toks := s1.toks + 1 }) I1.kIn hp (PySem.W.handed_on rfl ?_))))
  have I2 := I1.tok (s1.toks + 1)
  refine PySem.W.callWith_KW0 (first := []) (h₀ := X.base) I.ok.mod.kin c.kp hall (thn (hkw.run pos pins _ σ H1 _ I2 q) fun ws s2 ⟨zs, H2, I3, rz, q2⟩ => ⟨I3.kIn, ?_⟩) hpl
  rw [hks]
  exact run_fnk (us := []) (vs := []) F hr hb hx I3 .nil rz q2
/-- len of an instance by its own __len__ -/
structure LenO (K : PySem.W.Frag) (C g : Addr) : Prop where
  at_ : PySem.W.findIn K (.ref C) "__len__" = some (some (.ref g))
  fn : PySem.W.isFn K (.ref g) = true
def rLenO (C : Addr) (sp : Sp) (E : XK) : List V → Hp → VK → Prop := fun xs H Q => ∃ a dx fs, xs = [.ref a] ∧ H a = some (.ins C dx fs) ∧ sp [.ref a] H (fun v H' => ∃ n : Nat, v = .int n ∧ n < 2 ^ 63 ∧ Q (.int n) H') E
theorem call_lenO (c : LenO X.K C g) (F : FnOk X.prog X.w X.K X.mg X.base CX k g fd ps sp) (hr : Room (k + 1) X.A) (hb : Binds X.K fd ps []) (hx : Passes CX X E) : CallR X (.builtin "len") (rLenO C sp E) := by
  intro pins s σ H xs us Q I r h
  obtain ⟨a, dx, fs, rfl, ea, h⟩ := h
  rw [Vals.ref1 r]
  obtain ⟨mA, O, _⟩ := ins_get I.hok ea
  obtain ⟨od, J, _⟩ := O.look
  obtain ⟨m, hF⟩ := I.fr
  refine PySem.W.len_K hF I.ok.mod.kin J c.at_ c.fn ?_
  have hl := F.len _ _ _ _ h
  refine wpAny_call (codeAny_mono (F.run X.A.in1 X.stack s H ⟨[.ref a], []⟩ [.ref a] [.ref a] _ E hr.in1 I.env0.in1 (by simpa using hb s [.ref a] I.kIn (by simpa using hl)) (.cons rfl .nil) h) fun r s' hq => ?_)
  cases r with
  | error er => exact hx pins σ H s er s' I hq
  | ok fl =>
    cases fl with
    | ret u =>
      obtain ⟨v, H', I3, rv, n, rfl, hn, q⟩ := I.after hq
      obtain ⟨t, rfl⟩ := rv
      exact ⟨⟨by omega, by omega⟩, ⟨.int n, H', I3.tok _, ⟨_, rfl⟩, q⟩⟩
    | next => exact False.elim hq
    | brk => exact False.elim hq
    | cont => exact False.elim hq
end
/-! ### what a law calls -/
structure MetC (P : Program) (w : World) (K : PySem.W.Frag) (mg : Str → Option Value) (base : Heap) (k : Nat) (C : Addr) (m : Str) (sp : Sp) : Prop where
  ex : ∃ (f : Addr) (fd : FuncData) (ps : List Str), Cls K C ∧ Meth K C m f ∧ FnOk P w K mg base (L2.CX P w) k f fd ps sp ∧ Binds K fd ps []
structure MetK (P : Program) (w : World) (K : PySem.W.Frag) (mg : Str → Option Value) (base : Heap) (k : Nat) (C : Addr) (m : Str) (ks : List Str) (sp : Sp) (gV : List V → List V → List V) : Prop where
  ex : ∃ (f : Addr) (fd : FuncData) (ps : List Str) (g : List Value → List Value → List Value), Cls K C ∧ Meth K C m f ∧ FnOk P w K mg base (L2.CX P w) k f fd ps sp ∧ KBinds K fd ps ks g gV
structure MakK (P : Program) (w : World) (K : PySem.W.Frag) (mg : Str → Option Value) (base : Heap) (k : Nat) (x : Str) (C : Addr) (ks : List Str) (sp : Sp) (gV : List V → List V → List V) : Prop where
  ex : ∃ (f : Addr) (fd : FuncData) (ps : List Str) (g : List Value → List Value → List Value), Mk K C f ∧ FnOk P w K mg base (L2.CX P w) k f fd ps sp ∧ mg x = some (.ref C) ∧ KBn K fd ps 1 ks g gV
structure StaK (P : Program) (w : World) (K : PySem.W.Frag) (mg : Str → Option Value) (base : Heap) (k : Nat) (C : Addr) (m : Str) (ks : List Str) (sp : Sp) (gV : List V → List V → List V) : Prop where
  ex : ∃ (mc : Value) (p f : Addr) (fd : FuncData) (ps : List Str) (g : List Value → List Value → List Value), CRead K C mc ∧ SMet K C mc m p f ∧ FnOk P w K mg base (L2.CX P w) k f fd ps sp ∧ KBinds K fd ps ks g gV
/-- == by an own __eq__ -/
structure EqC (P : Program) (w : World) (K : PySem.W.Frag) (mg : Str → Option Value) (base : Heap) (k : Nat) (C : Addr) (R : Addr → Addr → Hp → Prop) : Prop where
  ex : ∃ (f : Addr) (fd : FuncData) (ps : List Str), FnOk P w K mg base CX0 k f fd ps (spEq R) ∧ PySem.W.findIn K (.ref C) "__eq__" = some (some (.ref f)) ∧ PySem.W.isFn K (.ref f) = true ∧ Binds K fd ps []
theorem op_eqC {X : Cx} {k j : Nat} {C : Addr} {R : Addr → Addr → Hp → Prop} (c : EqC X.prog X.w X.K X.mg X.base k C R) (hr : Room j X.A) (hk : k ≤ j) : OpR X (compareOp .Eq) (rEqG (DIns C R)) := by
  obtain ⟨f, fd, ps, F, h1, h2, b⟩ := c.ex
  exact op_eqG (rcG_ins F h1 h2 b pass0) (hr.mono hk)
structure LenC (P : Program) (w : World) (K : PySem.W.Frag) (mg : Str → Option Value) (base : Heap) (k : Nat) (C : Addr) (sp : Sp) : Prop where
  ex : ∃ (f : Addr) (fd : FuncData) (ps : List Str), LenO K C f ∧ FnOk P w K mg base (L2.CX P w) k f fd ps sp ∧ Binds K fd ps []
section
variable {X : Cx} {k j : Nat} {C : Addr} {m x : Str} {ks : List Str} {sp : Sp} {o e : Expr} {es : List Expr} {apos pos p : Pos} {kws : List Keyword} {ta : TE} {t tk : TA} {gV : List V → List V → List V}
theorem pe_cme {pl : Sem Bool} (c : MetC X.prog X.w X.K X.mg X.base k C m sp) (hr : Room j X.A) (hk : k ≤ j) (he : PE X o ta) (ha : PA X (e :: es) t)
    (hst : starEach (e :: es) X.env = (false, eval e X.env) :: starEach es X.env := by rfl) (hpl : (backTo pos (starEach es X.env)).any (·.1) = false := by rfl)
    (ht : eval (.Call (.Attribute o m apos) (e :: es) [] pos) X.env = (do
      let ov ← eval o X.env
      standAt apos.atName
      let (f, first) ← holding [ov] (getMethod ov m pl)
      callWith pos f first (backTo pos (starEach (e :: es) X.env)) (backToKw pos (keywordEach [] X.env))) := by rfl) :
    PE X (.Call (.Attribute o m apos) (e :: es) [] pos) (tMeth C m sp [] E0 ta t) := by
  obtain ⟨f, fd, ps, c1, c2, F, b⟩ := c.ex
  exact pe_meth he c1 c2 F (hr.mono hk) b .nil passL ha hst hpl ht
theorem pe_cmk {pl : Sem Bool} (c : MetK X.prog X.w X.K X.mg X.base k C m ks sp gV) (hr : Room j X.A) (hk : k ≤ j) (he : PE X o ta) (hkw : PK X kws tk)
    (hall : (backToKw pos (keywordEach kws X.env)).all (·.1.isSome) = true := by rfl) (hks : (backToKw pos (keywordEach kws X.env)).filterMap (·.1) = ks := by rfl) (hpl : ((backTo pos (starEach [] X.env)).any (·.1) || (backToKw pos (keywordEach kws X.env)).any (·.1.isNone)) = false := by rfl)
    (ht : eval (.Call (.Attribute o m apos) [] kws pos) X.env = (do
      let ov ← eval o X.env
      standAt apos.atName
      let (f, first) ← holding [ov] (getMethod ov m pl)
      callWith pos f first (backTo pos (starEach [] X.env)) (backToKw pos (keywordEach kws X.env))) := by rfl) :
    PE X (.Call (.Attribute o m apos) [] kws pos) (tMethK C m sp gV E0 ta tk) := by
  obtain ⟨f, fd, ps, g, c1, c2, F, b⟩ := c.ex
  exact pe_methK he c1 c2 F (hr.mono hk) b passL hkw hall hks hpl ht
theorem pe_cst {pl : Sem Bool} (c : StaK X.prog X.w X.K X.mg X.base k C m ks sp gV) (hr : Room j X.A) (hk : k ≤ j) (he : PE X o ta) (hkw : PK X kws tk)
    (hall : (backToKw pos (keywordEach kws X.env)).all (·.1.isSome) = true := by rfl) (hks : (backToKw pos (keywordEach kws X.env)).filterMap (·.1) = ks := by rfl) (hpl : ((backTo pos (starEach [] X.env)).any (·.1) || (backToKw pos (keywordEach kws X.env)).any (·.1.isNone)) = false := by rfl)
    (ht : eval (.Call (.Attribute o m apos) [] kws pos) X.env = (do
      let ov ← eval o X.env
      standAt apos.atName
      let (f, first) ← holding [ov] (getMethod ov m pl)
      callWith pos f first (backTo pos (starEach [] X.env)) (backToKw pos (keywordEach kws X.env))) := by rfl) :
    PE X (.Call (.Attribute o m apos) [] kws pos) (tStatK C sp gV E0 ta tk) := by
  obtain ⟨mc, q, f, fd, ps, g, c1, c2, F, b⟩ := c.ex
  exact pe_statK he c1 c2 F (hr.mono hk) b passL hkw hall hks hpl ht
theorem pe_cmm (c : MakK X.prog X.w X.K X.mg X.base k x C ks sp gV) (hr : Room j X.A) (hk : k + 1 ≤ j) (hg : Gl X x) (hkw : PK X kws tk)
    (hall : (backToKw pos (keywordEach kws X.env)).all (·.1.isSome) = true := by rfl) (hks : (backToKw pos (keywordEach kws X.env)).filterMap (·.1) = ks := by rfl) (hdb : (x == ("__debug__" : Str)) = false := by decide)
    (hpl : ((backTo pos (starEach [] X.env)).any (·.1) || (backToKw pos (keywordEach kws X.env)).any (·.1.isNone)) = false := by rfl) :
    PE X (.Call (.Name x p) [] kws pos) (tMakeK C 0 ks.length sp gV E0 tNil tk) := by
  obtain ⟨f, fd, ps, g, M, F, hm, b⟩ := c.ex
  exact pe_makeK0 M F (hr.mono hk) hg hm b passL hkw hall hks hdb hpl
theorem call_lenC (c : LenC X.prog X.w X.K X.mg X.base k C sp) (hr : Room j X.A) (hk : k + 1 ≤ j) : CallR X (.builtin "len") (rLenO C sp E0) := by
  obtain ⟨f, fd, ps, c1, F, b⟩ := c.ex
  exact call_lenO c1 F (hr.mono hk) b passL
end
end MP
end
section
open PySem L2 MPX MP
local macro_rules | `(tactic| walk_at "rd1") => `(tactic| first
  | with_reducible refine x_seq ?_
  | with_reducible refine x_next ?_
  | with_reducible refine x_ret ?_
  | with_reducible refine x_retN ?_
  | with_reducible refine x_ifs ?_
  | with_reducible refine x_asg ?_
  | with_reducible refine x_drop ?_
  | with_reducible refine x_name ?_
  | ((with_reducible refine' x_var ?vv ?_); (case vv => exact rfl))
  | with_reducible refine x_c ?_
  | with_reducible refine x_op ?_
  | with_reducible refine x_un ?_
  | with_reducible refine x_test ?_
  | with_reducible refine x_tB ?_
  | with_reducible refine x_and ?_
  | with_reducible refine x_or ?_
  | with_reducible refine x_not ?_
  | with_reducible refine x_andV ?_
  | with_reducible refine x_orV ?_
  | with_reducible refine x_notV ?_
  | with_reducible refine x_if ?_
  | with_reducible refine x_nil ?_
  | with_reducible refine x_cons ?_
  | with_reducible refine x_tup ?_
  | with_reducible refine x_lst ?_
  | with_reducible refine x_cb ?_
  | with_reducible refine x_call ?_
  | with_reducible refine x_callS ?_
  | with_reducible refine x_callP ?_
  | with_reducible refine x_mk0 ?_
  | with_reducible refine x_mk1 ?_
  | with_reducible refine x_mk2 ?_
  | with_reducible refine x_make ?_
  | with_reducible refine x_sfld ?_
  | with_reducible refine x_din ?_
  | with_reducible refine x_dnin ?_
  | with_reducible refine x_fldS ?_
  | with_reducible refine x_sl3 ?_
  | ((with_reducible refine' r_pg ?vr ?vt ?vm ?vl ?vq); (case vr => (with_reducible assumption)); (case vt => assumption); (case vm => decide +kernel); (case vl => exact rfl))
  | ((with_reducible refine' r_rn ?vr ?vt ?vm ?vl ?vq); (case vr => (with_reducible assumption)); (case vt => assumption); (case vm => decide +kernel); (case vl => exact rfl))
  | with_reducible refine x_m0 ?_
  | with_reducible refine x_m1 ?_
  | with_reducible refine x_bm0 ?_
  | with_reducible refine x_bm ?_
  | with_reducible refine x_par ?_
  | with_reducible refine x_ilist ?_
  | with_reducible refine x_itup ?_
  | with_reducible refine x_istr ?_
  | ((with_reducible show tLc _ _ _ _ _ _ _ _); unfold tLc)
  | ((with_reducible show tFor _ _ _ _ _ _); unfold tFor)
  | ((with_reducible refine' x_eq ?vv ?_); (case vv => exact rfl))
  | ((with_reducible refine' x_ne ?vv ?_); (case vv => exact rfl))
  | with_reducible refine x_rI0 ?_
  | with_reducible refine x_dgetR ?_
  | with_reducible refine x_dputR ?_
  | with_reducible refine x_dnew ?_
  | with_reducible refine x_dget1 ?_
  | with_reducible refine x_dget2 ?_
  | with_reducible refine x_sl ?_
  | with_reducible refine x_nopart ?_
  | with_reducible refine x_part ?_
  | ((with_reducible refine' x_slL ?vv ?_); (case vv => (with_reducible assumption)))
  | with_reducible refine x_disp ?_
  | with_reducible refine x_pcons ?_
  | with_reducible refine x_pnil ?_
  | ((with_reducible refine' x_mod ?vv ?_); (case vv => omega); intro r er hr0 hr1; (try clear er))
  | ((with_reducible refine' x_rI ?vv ?_); (case vv => walk_at "sc"))
  | (with_reducible refine Or.inl (Exists.intro _ (And.intro rfl ?_)))
  | with_reducible refine x_T ?_
  | with_reducible refine x_F ?_
  | ((with_reducible show Exists (α := V) _); (with_reducible apply Exists.intro))
  | ((with_reducible show Exists (α := Bool) _); (with_reducible apply Exists.intro))
  | ((with_reducible show Exists (α := Nat) _); (with_reducible apply Exists.intro))
  | ((with_reducible show Exists (α := Int) _); (with_reducible apply Exists.intro))
  | ((with_reducible show Exists (α := List V) _); (with_reducible apply Exists.intro))
  | ((with_reducible show Exists (α := PySem.Str) _); (with_reducible apply Exists.intro))
  | ((with_reducible show Exists (α := Option V) _); (with_reducible apply Exists.intro))
  | ((with_reducible show Exists (α := Option Int) _); (with_reducible apply Exists.intro))
  | ((with_reducible show Exists (α := List (Key × V)) _); (with_reducible apply Exists.intro))
  | refine And.intro rfl ?_
  | ((with_reducible refine And.intro ?vv ?_); (case vv => (first | (with_reducible assumption) | (show _ ≤ sizeLine; decide) | exact len_ok rfl)))
  | (refine And.intro (Exists.intro _ rfl) ?_))
local macro_rules | `(tactic| walk_at "sc") => `(tactic| first
  | (with_reducible assumption)
  | exact divW (by omega) (by omega)
  | exact mulW (by omega) (by omega)
  | exact Or.inl ⟨by omega, by omega⟩
  | exact Or.inr ⟨by omega, by omega⟩
  | (show (_ : Int) ≠ 0; omega)
  | exact ⟨by decide, by decide, by decide⟩
  | decide)
local macro_rules | `(tactic| walk_at "rd") => `(tactic| repeat walk_at "rd1")
namespace MP
open PySem L2 StX
section
variable {P : Program} {w : World} {K : PySem.W.Frag} {mg : Str → Option Value} {base : Heap} {ts : Nat → Tok} {CP CM CN CR CO : Addr}
def sp_shortest (K : PySem.W.Frag) (CP CR : Addr) : Sp := fun vs H Q _ => ∃ (x : Addr) (ad : Nat → Addr) (mo pr bh fh : Addr) (R : RdM) (z : Str) (be : List (Int × Int)) (fi : List (Str × Int)) (n M : Nat) (rs ss : List (Int × Int)) (fl b : Int) (ls op : List Int) (c : Bool), vs = [.ref x] ∧ ProgAt CP H x ad mo pr bh fh R z be fi ∧ H (ad 4) = some (.dK (kI V.str R.owners)) ∧ Sm2 R ∧ n * R.owners.length < 90000 ∧ tabsL R be fi n [] [] = some (rs, ss) ∧
  look fi ("main" : Str) = some fl ∧ leastL [look rs fl, look ss fl] = some b ∧ M < 90000 ∧ linesL R be fi rs ss M none false [(fl, decide (look rs fl = some b))] [] = some ls ∧ ls.length < 100000 ∧ walkedL R be fi ls = some (.inr op) ∧ compL R be fi ls op = some c ∧
  ∀ y t o H', Same H H' → RunAt K CR H' y x t o ls op c → Q (.ref y) H'
theorem ok_shortest {f : Addr} {fd : FuncData} (F : Fun K "shortest" "Run.shortest" s_Run_shortest f fd) (T : ShortTxt P K mg CP CM CN CR CO) (c_shortest_lines : Cal P w K mg base 4 "shortest_lines" (sp_slines CP)) (c_Run : CalM P w K mg base 4 "Run" CR (sp_rinit K CP CN CR)) : FnOk P w K mg base (L2.CX P w) 6 f fd P_Run_shortest (sp_shortest K CP CR) := by
  refine F.okX sc_Run_shortest (fun vs H Q E h => ?_) (fun cdv A outer s H vs Q E hr h => ?_)
  · obtain ⟨x, ad, mo, pr, bh, fh, R, z, be, fi, n, M, rs, ss, fl, b, ls, op, c, rfl, _⟩ := h
    rfl
  · obtain ⟨x, ad, mo, pr, bh, fh, R, z, be, fi, n, M, rs, ss, fl, b, ls, op, c, rfl, r, hown, sm2, hn, hT, hfl, hb, hM, hL, hl, hw, hc, k⟩ := h
    have Tr := T.pg
    have hu := hu_of hr
    refine ⟨_, (pss_one (ps_ret (pe_cm c_Run hr (by decide) rfl (pa_cons (pv 0) (pa_cons (pe_cc c_shortest_lines hr (by decide) rfl (pa_cons (pv 0) pa_nil)) pa_nil))))), ?_⟩
    show tRet _ _ [some (V.ref x)] H
    walk_at "rd"
    refine ⟨x, ad, mo, pr, bh, fh, R, z, be, fi, n, M, rs, ss, fl, b, ls, rfl, r, hown, sm2, hn, hT, hfl, hb, hM, hL, fun la H1 s1 e1 => ?_⟩
    walk_at "rd"
    intro y dy ny ndy hyd
    have s2 : Same H1 (upd (upd H1 dy (.own y)) y (.ins CR dy [])) := (same_upd ndy).trans (same_upd (by rw [upd_ne (Ne.symm hyd)]; exact ny))
    have r2 := (r.same s1).same s2
    refine ⟨y, dy, x, ad, mo, pr, bh, fh, R, z, be, fi, la, ls, .inr op, c, rfl, upd_same, r2, Or.inl (SqL.of (s2 _ _ e1)), hl, sm2, hw, fun op2 e => (by cases e; exact hc), fun i e => (by cases e), fun op2 t o H' e fr ra => ?_⟩
    cases e
    exact ⟨rfl, k y t o H' (fun b u e => fr _ _ (s2 _ _ (s1 _ _ e)) (ne_of_none (s1 _ _ e) ny)) ra⟩
/-! ### == of programs and of runs -/
structure EqTxt (K : PySem.W.Frag) (mg : Str → Option Value) (CP CR : Addr) : Prop where
  b_isinstance : mg "isinstance" = none
  g_Program : mg "Program" = some (.ref CP)
  g_Run : mg "Run" = some (.ref CR)
  kc : ∀ C, C = CP ∨ C = CR → PySem.W.findIn K (.ref C) "__class__" = some (some (.builtin "object.__class__")) ∧ PySem.W.mroIn K C (.type "object") = some true
  k1 : PySem.W.specialIn K (.builtin "object.__class__") "__get__" = some (some (.builtin "getset_descriptor.__get__"))
  k2 : PySem.W.takesIn K (.builtin "object.__class__") = some true
theorem isi_self {K : PySem.W.Frag} {mg : Str → Option Value} {CP CR C : Addr} (T : EqTxt K mg CP CR) (hC : C = CP ∨ C = CR) (cl : Cls K C) {H : Hp} {a dx : Addr} {fs : List (Str × V)} (e : H a = some (.ins C dx fs)) {Q : VK} (q : Q (.bl true) H) : rIsi K [.ref a, .ref C] H Q :=
  ⟨_, _, .ref C, .ref C, true, rfl, .own C, .base (.ins e cl (T.kc C hC).1 T.k1 T.k2 (T.kc C hC).2), by unfold PySem.W.kitOne; rw [if_pos (beq_self_eq_true _)], q⟩
/-- two programs of one text -/
def SameTx (CP : Addr) (a b : Addr) (H : Hp) : Prop := ∃ z, (∃ dx fs, H a = some (.ins CP dx fs) ∧ fs.lookup ("text" : Str) = some (.str z)) ∧ ∃ dx fs, H b = some (.ins CP dx fs) ∧ fs.lookup ("text" : Str) = some (.str z)
theorem ok_peq {f : Addr} {fd : FuncData} (F : Fun K "__eq__" "Program.__eq__" s_Program___eq__ f fd) (T : EqTxt K mg CP CR) (pg : PrgTxt K CP) : FnOk P w K mg base CX0 1 f fd P_Program___eq__ (spEq (SameTx CP)) := by
  refine F.ok sc_Program___eq__ (fun vs H Q E h => ?_) (fun cdv A outer s H vs Q E hr h => ?_)
  · obtain ⟨a, b, rfl, _⟩ := h
    rfl
  · obtain ⟨a, b, rfl, ⟨z, ⟨dx, fs, ha, hla⟩, dy, gs, hb, hlb⟩, k⟩ := h
    refine ⟨_, (pss_one (ps_ret (pe_and (pe_callB call_isi (by rfl) T.b_isinstance (by decide +kernel) (pa_cons (pv 1) (pa_cons (pe_glob (v := V.ref CP) rfl T.g_Program rfl) pa_nil))) (pe_one (pe_cmpR op_eq (pe_fld (pv 0) rfl) (pe_fld (pv 1) rfl) (nomark _)))))), ?_⟩
    show tRet _ _ [some (V.ref a), some (V.ref b)] H
    walk_at "rd"
    refine isi_self T (Or.inl rfl) pg.cl hb ?_
    walk_at "rd"
    refine ⟨a, CP, dx, _, _, rfl, ha, pg.cl, pg.na _ (by decide +kernel), hla, ?_⟩
    walk_at "rd"
    refine ⟨b, CP, dy, _, _, rfl, hb, pg.cl, pg.na _ (by decide +kernel), hlb, ?_⟩
    refine x_eq rfl ?_
    rw [decide_eq_true rfl]
    exact k H fun _ _ e => e
/-- two runs of programs of one text with the same lines -/
def SameRn (K : PySem.W.Frag) (CP CR : Addr) (a b : Addr) (H : Hp) : Prop := ∃ ls x1 t1 o1 x2 t2 o2 op1 op2 c1 c2, RunAt K CR H a x1 t1 o1 ls op1 c1 ∧ RunAt K CR H b x2 t2 o2 ls op2 c2 ∧ SameTx CP x1 x2 H
theorem ok_req {fP f : Addr} {fdP fd : FuncData} (F : Fun K "__eq__" "Run.__eq__" s_Run___eq__ f fd) (T : EqTxt K mg CP CR) (pg : PrgTxt K CP) (rn : RunCls K CR)
    (FP : FnOk P w K mg base CX0 1 fP fdP P_Program___eq__ (spEq (SameTx CP))) (hs : PySem.W.findIn K (.ref CP) "__eq__" = some (some (.ref fP))) (hf : PySem.W.isFn K (.ref fP) = true) (hb : Binds K fdP P_Program___eq__ []) : FnOk P w K mg base CX0 3 f fd P_Run___eq__ (spEq (SameRn K CP CR)) := by
  refine F.ok sc_Run___eq__ (fun vs H Q E h => ?_) (fun cdv A outer s H vs Q E hr h => ?_)
  · obtain ⟨a, b, rfl, _⟩ := h
    rfl
  · obtain ⟨a, b, rfl, ⟨ls, x1, t1, o1, x2, t2, o2, op1, op2, c1, c2, y1, y2, tx⟩, k⟩ := h
    have Tn := rn
    have oeq : OpR (cxOf CX0 P w K mg base N_Run___eq__ "Run.__eq__" (defScope s_Run___eq__) f cdv A outer s H E).nox (compareOp .Eq) (rEqG (DIns CP (SameTx CP))) := op_eqG (n := 1) (rcG_ins FP hs hf hb pass0) (hr.mono (by decide))
    refine ⟨_, (pss_one (ps_ret (pe_and (pe_callB call_isi (by rfl) T.b_isinstance (by decide +kernel) (pa_cons (pv 1) (pa_cons (pe_glob (v := V.ref CR) rfl T.g_Run rfl) pa_nil))) (pe_and (pe_cmpR oeq (pe_fld (pv 0) rfl) (pe_fld (pv 1) rfl) (nomark _)) (pe_one (pe_cmpR (op_eqD hr.units) (pe_fld (pv 0) rfl) (pe_fld (pv 1) rfl) (nomark _))))))), ?_⟩
    show tRet _ _ [some (V.ref a), some (V.ref b)] H
    walk_at "rd"
    obtain ⟨dy2, hb2⟩ := y2.ob
    refine isi_self T (Or.inr rfl) rn.cl hb2 ?_
    walk_at "rd"
    obtain ⟨z, ⟨dx, fs, ha1, hla⟩, dy, gs, hb1, hlb⟩ := id tx
    refine ⟨⟨x1, x2, dx, dy, fs, gs, rfl, rfl, ha1, hb1, tx⟩, fun H1 s1 => ?_⟩
    have y3 := y1.same s1
    have y4 := y2.same s1
    walk_at "rd"
    refine x_eqInts y3.hl y4.hl ?_
    rw [decide_eq_true rfl]
    exact k _ s1
end
end MP
end
section
namespace MP
open PySem PySem.Spec PyProof.Rows L2
/-- a text times a number -/
theorem op_repS {X : Cx} : OpR X (binaryOp .Mult) (fun x y H Q => ∃ z n, x = .str z ∧ y = .int n ∧ MulOk z n ∧ Q (.str (Txt.mul z n)) H) := by
  intro pins s σ H x y v u Q I rx ry h
  obtain ⟨z, n, rfl, rfl, hok, q⟩ := h
  obtain ⟨t, rfl⟩ := rx
  obtain ⟨t2, rfl⟩ := ry
  exact SB.mul hok fun t' k => ⟨.str _, H, I.tok _, ⟨_, rfl⟩, q⟩
theorem x_par3 {σ : L2.St} {H : Hp} {D : Ends} {i j l : Nat} {ta : TA} (h : ta σ H fun vs H1 => ∃ u v w, vs = [u, v, w] ∧ D.nx (((σ.set i (some u)).set j (some v)).set l (some w)) H1) : tPar3 i j l ta D σ H := h
end MP
end
section
namespace MP
open PySem L2
/-! ### law k14: names, prices, rows -/
def nameC (c c2 k : Nat) : Str := ⟨#[c]⟩ ++ Txt.mul ⟨#[c2]⟩ ((1 : Int) + (k : Nat))
def cA : List Nat := [97, 98, 99, 100, 101, 102, 103, 104, 105, 106, 107, 108, 109]
def cX : List Nat := [120, 121, 122]
def IsNm (z : Str) : Prop := ∃ c ∈ cA, ∃ c2 ∈ cX, ∃ k, k < 9 ∧ z = nameC c c2 k
theorem nm_all {p : Str → Bool} (h : (cA.all fun c => cX.all fun c2 => (List.range 9).all fun k => p (nameC c c2 k)) = true) {z : Str} (hz : IsNm z) : p z = true := by
  obtain ⟨c, hc, c2, hc2, k, hk, rfl⟩ := hz
  exact List.all_eq_true.mp (List.all_eq_true.mp (List.all_eq_true.mp h c hc) c2 hc2) k (List.mem_range.mpr hk)
def IsPr (z : Str) : Prop := ∃ k : Nat, k < 1000 ∧ z = Str.ofString (toString ((1 : Int) + (k : Nat)))
theorem pr_all {p : Nat → Str → Bool} (h : ((List.range 1000).all fun k => p k (Str.ofString (toString ((1 : Int) + (k : Nat))))) = true) {z : Str} (hz : IsPr z) : ∃ k, k < 1000 ∧ p k z = true := by
  obtain ⟨k, hk, rfl⟩ := hz
  exact ⟨k, hk, List.all_eq_true.mp h k (List.mem_range.mpr hk)⟩
theorem nm_len {z : Str} (h : IsNm z) : z.length ≤ 10 := of_decide_eq_true (nm_all (p := fun z => decide (z.length ≤ 10)) (by decide +kernel) h)
theorem pr_len {z : Str} (h : IsPr z) : z.length ≤ 4 := let ⟨_, _, e⟩ := pr_all (p := fun _ z => decide (z.length ≤ 4)) (by decide +kernel) h; of_decide_eq_true e
theorem mul_ok {c2 k : Nat} (h : c2 ∈ cX) (hk : k < 9) : MulOk ⟨#[c2]⟩ ((1 : Int) + (k : Nat)) := by
  have hl : (⟨#[c2]⟩ : Str).length = 1 := rfl
  refine ⟨?_, fun _ _ => ?_, fun _ _ => ?_⟩
  · rw [decide_eq_false (by omega), decide_eq_false (by omega)]
    rfl
  · rw [hl]
    have : ((1 : Int) + (k : Nat)) ≤ 9 := by omega
    have h2 : (1 : Int) ≤ (2 ^ 63 - 1) / ((1 : Int) + (k : Nat)) := by
      rw [Int.le_ediv_iff_mul_le (by omega)]
      omega
    omega
  · rw [hl]
    have : ((1 : Int) + (k : Nat)).toNat ≤ 9 := by omega
    have e : ∀ n, n < 10 → Builtin.Str.tooLong (1 * n) = false := by decide +kernel
    exact e _ (by omega)
theorem join5_len (a b c d e : Str) : (Txt.join (" " : Str) [a, b, c, d, e]).length = a.length + b.length + c.length + d.length + e.length + 4 := by
  have l1 : ((" " : Str)).length = 1 := by decide +kernel
  rw [TL.join_eq]
  simp only [Str.join, Str.length_append, l1]
  omega
def rowsL (ink bl rd p0 p1 : Str) : List Str := [("mode " : Str) ++ Txt.join " " [ink, bl, p0, rd, p1], (("start " : Str) ++ ink ++ (" " : Str)) ++ rd, "proc main", "loop", "either", (("do w " : Str) ++ ink ++ ("=" : Str)) ++ bl, "or", "call side", "end", "end", "end", "proc side", (("do v " : Str) ++ ink ++ ("=" : Str)) ++ rd, "end"]
theorem x_rg {ta : TA} {σ : L2.St} {H : Hp} {R : It → Hp → Prop} (h : ta σ H fun vs H1 => ∃ j : Int, vs = [.int j] ∧ -(2 ^ 62) ≤ j ∧ j < 2 ^ 62 ∧ R (Itr 0 j.toNat) H1) : iRng1 ta σ H R := h
def segL (b : Bool) : List Int := if b = true then [5, 6, 7, 10] else [5, 8, 13, 14, 9, 10]
def wayL (bs : List Bool) : List Int := [4] ++ bs.flatMap segL
theorem way_len (bs : List Bool) : (wayL bs).length ≤ 1 + 6 * bs.length := by
  unfold wayL
  rw [List.length_append]
  have h : ∀ bs : List Bool, (bs.flatMap segL).length ≤ 6 * bs.length := fun bs => by
    induction bs with
    | nil => simp
    | cons b r ih =>
      rw [List.flatMap_cons, List.length_append, List.length_cons]
      have : (segL b).length ≤ 6 := by cases b <;> decide
      omega
  have := h bs
  rw [List.length_cons, List.length_nil]
  omega
end MP
end
section
open PySem L2 MPX MP
local macro_rules | `(tactic| walk_at "rd1") => `(tactic| first
  | with_reducible refine x_seq ?_
  | with_reducible refine x_next ?_
  | with_reducible refine x_ret ?_
  | with_reducible refine x_retN ?_
  | with_reducible refine x_ifs ?_
  | with_reducible refine x_asg ?_
  | with_reducible refine x_drop ?_
  | with_reducible refine x_name ?_
  | ((with_reducible refine' x_var ?vv ?_); (case vv => exact rfl))
  | with_reducible refine x_c ?_
  | with_reducible refine x_op ?_
  | with_reducible refine x_un ?_
  | with_reducible refine x_test ?_
  | with_reducible refine x_tB ?_
  | with_reducible refine x_and ?_
  | with_reducible refine x_or ?_
  | with_reducible refine x_not ?_
  | with_reducible refine x_andV ?_
  | with_reducible refine x_orV ?_
  | with_reducible refine x_notV ?_
  | with_reducible refine x_if ?_
  | with_reducible refine x_nil ?_
  | with_reducible refine x_cons ?_
  | with_reducible refine x_tup ?_
  | with_reducible refine x_lst ?_
  | with_reducible refine x_cb ?_
  | with_reducible refine x_call ?_
  | with_reducible refine x_callS ?_
  | with_reducible refine x_callP ?_
  | with_reducible refine x_mk0 ?_
  | with_reducible refine x_mk1 ?_
  | with_reducible refine x_mk2 ?_
  | with_reducible refine x_make ?_
  | with_reducible refine x_sfld ?_
  | with_reducible refine x_m0 ?_
  | with_reducible refine x_m1 ?_
  | with_reducible refine x_bm0 ?_
  | with_reducible refine x_bm ?_
  | with_reducible refine x_par ?_
  | with_reducible refine x_ilist ?_
  | with_reducible refine x_itup ?_
  | with_reducible refine x_istr ?_
  | ((with_reducible show tLc _ _ _ _ _ _ _ _); unfold tLc)
  | ((with_reducible show tFor _ _ _ _ _ _); unfold tFor)
  | ((with_reducible refine' x_eq ?vv ?_); (case vv => exact rfl))
  | ((with_reducible refine' x_ne ?vv ?_); (case vv => exact rfl))
  | with_reducible refine x_rI0 ?_
  | with_reducible refine x_dget ?_
  | with_reducible refine x_dput ?_
  | with_reducible refine x_dnew ?_
  | with_reducible refine x_dget1 ?_
  | with_reducible refine x_dget2 ?_
  | with_reducible refine x_sl ?_
  | with_reducible refine x_nopart ?_
  | with_reducible refine x_part ?_
  | ((with_reducible refine' x_slL ?vv ?_); (case vv => (with_reducible assumption)))
  | with_reducible refine x_disp ?_
  | with_reducible refine x_pcons ?_
  | with_reducible refine x_pnil ?_
  | ((with_reducible refine' x_mod ?vv ?_); (case vv => omega); intro r er hr0 hr1; (try clear er))
  | ((with_reducible refine' x_rI ?vv ?_); (case vv => walk_at "sc"))
  | (with_reducible refine Or.inl (Exists.intro _ (And.intro rfl ?_)))
  | with_reducible refine x_T ?_
  | with_reducible refine x_F ?_
  | ((with_reducible show Exists (α := V) _); (with_reducible apply Exists.intro))
  | ((with_reducible show Exists (α := Bool) _); (with_reducible apply Exists.intro))
  | ((with_reducible show Exists (α := Nat) _); (with_reducible apply Exists.intro))
  | ((with_reducible show Exists (α := Int) _); (with_reducible apply Exists.intro))
  | ((with_reducible show Exists (α := List V) _); (with_reducible apply Exists.intro))
  | ((with_reducible show Exists (α := PySem.Str) _); (with_reducible apply Exists.intro))
  | ((with_reducible show Exists (α := Option V) _); (with_reducible apply Exists.intro))
  | ((with_reducible show Exists (α := Option Int) _); (with_reducible apply Exists.intro))
  | ((with_reducible show Exists (α := List (Key × V)) _); (with_reducible apply Exists.intro))
  | refine And.intro rfl ?_
  | ((with_reducible refine And.intro ?vv ?_); (case vv => (first | (with_reducible assumption) | (show _ ≤ sizeLine; decide) | exact len_ok rfl)))
  | (refine And.intro (Exists.intro _ rfl) ?_))
local macro_rules | `(tactic| walk_at "sc") => `(tactic| first
  | (with_reducible assumption)
  | exact divW (by omega) (by omega)
  | exact mulW (by omega) (by omega)
  | exact Or.inl ⟨by omega, by omega⟩
  | exact Or.inr ⟨by omega, by omega⟩
  | (show (_ : Int) ≠ 0; omega)
  | exact ⟨by decide, by decide, by decide⟩
  | decide)
local macro_rules | `(tactic| walk_at "rd") => `(tactic| repeat walk_at "rd1")
local macro_rules | `(tactic| walk_at "lens") => `(tactic| (walk_at "rd"; repeat ((first | refine ⟨by omega, ?_⟩ | refine ⟨_, _, rfl, rfl, by omega, ?_⟩); walk_at "rd")))
namespace MP
open PySem L2
section
variable {P : Program} {w : World} {K : PySem.W.Frag} {mg : Str → Option Value} {base : Heap}
abbrev s__law_rows : Stmt := topS 63
abbrev N__law_rows : List Str := ["_law_pen_here", "_law_names", "_law_k", "_law_ink", "_law_black", "_law_red", "_law_prices", "_law_rows_here", "_law_walk", "_law_turn"]
abbrev P__law_rows : List Str := ["_law_pen_here"]
theorem sc__law_rows : FnScope N__law_rows P__law_rows (defScope s__law_rows) := ⟨rfl, rfl, rfl, by decide +kernel, rfl, by decide +kernel, by decide +kernel⟩
structure RowTxt (mg : Str → Option Value) : Prop where
  b_range : mg "range" = none
  b_str : mg "str" = none
theorem seg_take {bs : List Bool} (b : Bool) : wayL (bs ++ [b]) = wayL bs ++ segL b := by
  unfold wayL
  rw [List.flatMap_append, ← List.append_assoc]
  simp
def sp_rows : Sp := fun vs H Q _ => ∃ (d : Addr) (ns : List Int) (n : Nat), vs = [.ref d] ∧ Pen H d ns n ∧ n < 1000 ∧
  ∀ t la wa H' (ink nm p0 p1 : Str) (bs : List Bool), IsNm ink → IsNm nm → IsPr p0 → IsPr p1 → bs.length ≤ 5 → H' t = some (.tup [.ref la, .ref wa, .str ink, .str (("p" : Str) ++ nm)]) →
    H' la = some (.lst ((rowsL ink (("p" : Str) ++ nm) (("q" : Str) ++ nm) p0 p1).map V.str)) → H' wa = some (.lst ((wayL bs ++ [11]).map V.int)) → Q (.ref t) H'
theorem ok_rows {f : Addr} {fd : FuncData} (F : Fun K "_law_rows" "_law_rows" s__law_rows f fd) (T : RowTxt mg) (c__law_draw : Cal P w K mg base 1 "_law_draw" sp_draw) (c__law_pick : Cal P w K mg base 2 "_law_pick" sp_pickS) : FnOk P w K mg base (L2.CX P w) 3 f fd P__law_rows sp_rows := by
  refine F.okX sc__law_rows (fun vs H Q E h => ?_) (fun cdv A outer s H vs Q E hr h => ?_)
  · obtain ⟨d, ns, n, rfl, _⟩ := h
    rfl
  · obtain ⟨d, ns, n, rfl, p, hn, k⟩ := h
    refine ⟨_, (pss_cons (ps_setLc (i := 1) (own := [("_law_k", 2)]) (g := gName 2) (tt := tYes) rfl sc__law_rows.nd rfl rfl (sw_true rfl rfl rfl (by decide +kernel)) (pi_range1 rfl T.b_range (pa_cons pe_int pa_nil)) (blkOk_by (own := [("_law_k", 2)]) (N := N__law_rows) (sc := defScope s__law_rows) (by decide +kernel)) (fun _ _ _ _ _ => (pg_name (i := 2) sc__law_rows.nd rfl (Or.inl rfl))) (fun _ _ _ _ _ => pts_nil) (fun _ _ _ _ _ => (pe_op op_add_str (pe_cc c__law_pick hr (by decide) rfl (pa_cons (pv 0) (pa_cons pe_str pa_nil))) (pe_op op_repS (pe_cc c__law_pick hr (by decide) rfl (pa_cons (pv 0) (pa_cons pe_str pa_nil))) (pe_op op_add pe_int (pe_cc c__law_draw hr (by decide) rfl (pa_cons (pv 0) (pa_cons pe_int pa_nil))))))))
      (pss_cons (ps_par3 (i := 3) (j := 4) (l := 5) (by rfl) sc__law_rows.nd rfl rfl rfl (by decide) (by decide) (by decide) rfl rfl rfl (pa_cons (pe_ix ix_list (pv 1) pe_int (fun _ _ => rfl)) (pa_cons (pe_op op_add_str pe_str (pe_ix ix_list (pv 1) pe_int (fun _ _ => rfl))) (pa_cons (pe_op op_add_str pe_str (pe_ix ix_list (pv 1) pe_int (fun _ _ => rfl))) pa_nil))) (by rfl))
      (pss_cons (ps_setLc (i := 6) (own := [("_law_k", 2)]) (g := gName 2) (tt := tYes) rfl sc__law_rows.nd rfl rfl (sw_true rfl rfl rfl (by decide +kernel)) (pi_range1 rfl T.b_range (pa_cons pe_int pa_nil)) (blkOk_by (own := [("_law_k", 2)]) (N := N__law_rows) (sc := defScope s__law_rows) (by decide +kernel)) (fun _ _ _ _ _ => (pg_name (i := 2) sc__law_rows.nd rfl (Or.inl rfl))) (fun _ _ _ _ _ => pts_nil) (fun _ _ _ _ _ => (pe_callTy call_str_int (by rfl) T.b_str (by decide +kernel) (pa_cons (pe_op op_add pe_int (pe_cc c__law_draw hr (by decide) rfl (pa_cons (pv 0) (pa_cons pe_int pa_nil)))) pa_nil))))
      (pss_cons (ps_set (i := 7) sc__law_rows.nd rfl (Or.inl rfl) (pe_lst (pa_cons (pe_op op_add_str pe_str (pe_join pe_str (pe_lst (pa_cons (pv 3) (pa_cons (pv 4) (pa_cons (pe_ix ix_list (pv 6) pe_int (fun _ _ => rfl)) (pa_cons (pv 5) (pa_cons (pe_ix ix_list (pv 6) pe_int (fun _ _ => rfl)) pa_nil)))))))) (pa_cons (pe_op op_add_str (pe_op op_add_str (pe_op op_add_str pe_str (pv 3)) pe_str) (pv 5)) (pa_cons pe_str pa_nil)))))
      (pss_cons (ps_set (i := 7) sc__law_rows.nd rfl (Or.inl rfl) (pe_op op_cat (pv 7) (pe_lst (pa_cons pe_str (pa_cons pe_str (pa_cons (pe_op op_add_str (pe_op op_add_str (pe_op op_add_str pe_str (pv 3)) pe_str) (pv 4)) (pa_cons pe_str (pa_cons pe_str (pa_cons pe_str (pa_cons pe_str (pa_cons pe_str pa_nil)))))))))))
      (pss_cons (ps_set (i := 7) sc__law_rows.nd rfl (Or.inl rfl) (pe_op op_cat (pv 7) (pe_lst (pa_cons pe_str (pa_cons (pe_op op_add_str (pe_op op_add_str (pe_op op_add_str pe_str (pv 3)) pe_str) (pv 5)) (pa_cons pe_str pa_nil))))))
      (pss_cons (ps_set (i := 8) sc__law_rows.nd rfl (Or.inl rfl) (pe_lst (pa_cons pe_int pa_nil)))
      (pss_cons (ps_for (passes_of rfl) rfl (pi_range1 rfl T.b_range (pa_cons (pe_cc c__law_draw hr (by decide) rfl (pa_cons (pv 0) (pa_cons pe_int pa_nil))) pa_nil)) (pg_name (i := 9) sc__law_rows.nd rfl (Or.inl rfl))
      (pss_one (ps_set (i := 8) sc__law_rows.nd rfl (Or.inl rfl) (pe_op op_cat (pv 8) (pe_ifExp (pt_cmpR op_eq (pe_cc c__law_draw hr (by decide) rfl (pa_cons (pv 0) (pa_cons pe_int pa_nil))) pe_int (nomark _)) (pe_lst (pa_cons pe_int (pa_cons pe_int (pa_cons pe_int (pa_cons pe_int pa_nil))))) (pe_lst (pa_cons pe_int (pa_cons pe_int (pa_cons pe_int (pa_cons pe_int (pa_cons pe_int (pa_cons pe_int pa_nil))))))))))))
      (pss_one (ps_ret (pe_tup (pa_cons (pv 7) (pa_cons (pe_op op_cat (pv 8) (pe_lst (pa_cons pe_int pa_nil))) (pa_cons (pv 3) (pa_cons (pv 4) pa_nil))))))))))))))), ?_⟩
    show tSeq _ _ _ [some (V.ref d), none, none, none, none, none, none, none, none, none] H
    walk_at "rd"
    obtain ⟨cl, a0, b0, pa, pl⟩ := p
    have p : PenL H d cl ns n := ⟨a0, b0, pa, pl⟩
    clear pa pl
    refine x_rngC (by decide) (by decide) fun D nD => ?_
    obtain ⟨hD1, hD2⟩ := p.ne nD
    refine lc_range (n := 2) (fun i H3 => Hold (∃ l : List Str, l.length = i ∧ (∀ x ∈ l, IsNm x) ∧ H3 D = some (.lst (l.map V.str)) ∧ PenL H3 d cl ns (n + 3 * i))) ⟨[], rfl, fun _ h => (by cases h), upd_same, p.mono (same_upd nD)⟩ ?_ ?_
    · rintro i H3 hi ⟨l, hl, hnm, hD, hp⟩
      walk_at "rd"
      unfold tYes
      refine x_T ?_
      walk_at "rd"
      refine ⟨d, cl, "abcdefghijklm", ns, n + 3 * i, rfl, hp, by omega, by decide, by decide, fun c H4 hc kp4 p4 => ?_⟩
      walk_at "rd"
      refine ⟨d, cl, "xyz", ns, n + 3 * i + 1, rfl, p4, by omega, by decide, by decide, fun c2 H5 hc2 kp5 p5 => ?_⟩
      walk_at "rd"
      refine ⟨d, cl, 9, ns, n + 3 * i + 1 + 1, rfl, p5, by omega, by decide, by decide, fun j H6 hj0 hj1 kp6 p6 => ?_⟩
      walk_at "rd"
      obtain ⟨j, rfl⟩ : ∃ k : Nat, j = k := ⟨j.toNat, by omega⟩
      have hcA : c ∈ cA := by
        have e : ((Str.ofString "abcdefghijklm").cps.toList) = cA := by decide +kernel
        rw [← e]
        exact hc
      have hcX : c2 ∈ cX := by
        have e : ((Str.ofString "xyz").cps.toList) = cX := by decide +kernel
        rw [← e]
        exact hc2
      have hnew : IsNm (nameC c c2 j) := ⟨c, hcA, c2, hcX, j, by omega, rfl⟩
      refine ⟨mul_ok hcX (by omega), ?_⟩
      have hln := nm_len hnew
      walk_at "rd"
      refine ⟨?_, ?_⟩
      · have e : (⟨#[c]⟩ : Str).length + (Txt.mul ⟨#[c2]⟩ ((1 : Int) + (j : Nat))).length = (nameC c c2 j).length := (Str.length_append _ _).symm
        have : sizeLine = 16777216 := sizeLine_eq
        omega
      have hD6 := kp6 _ _ (kp5 _ _ (kp4 _ _ hD hD1) hD1) hD1
      refine ⟨_, hD6, ?_, ⟨l ++ [nameC c c2 j], by rw [List.length_append, hl]; rfl, fun x hx => ?_, by rw [upd_same, List.map_append]; rfl, (p6.off hD1 hD2).le (by omega)⟩⟩
      · rw [List.length_map]
        have : sizeLine = 16777216 := sizeLine_eq
        omega
      · rcases List.mem_append.mp hx with hx | hx
        · exact hnm x hx
        · rw [List.mem_singleton.mp hx]
          exact hnew
    rintro H3 ⟨l, hl, hnm, hD, hp⟩
    obtain ⟨ink, nm, rfl⟩ : ∃ a b, l = [a, b] := by
      match l, hl with
      | [a, b], _ => exact ⟨a, b, rfl⟩
    have hink := hnm ink (by simp)
    have hnm := hnm nm (by simp)
    have big : sizeLine = 16777216 := sizeLine_eq
    have lnm := nm_len hnm
    have link := nm_len hink
    have l_p : (("p" : Str)).length = 1 := by decide +kernel
    have l_q : (("q" : Str)).length = 1 := by decide +kernel
    walk_at "rd"
    refine x_par3 ?_
    walk_at "rd"
    refine x_ixL (SqL.of hD) (v := .str ink) rfl ?_
    walk_at "rd"
    refine x_ixL (SqL.of hD) (v := .str nm) rfl ?_
    refine ⟨_, _, rfl, rfl, by omega, ?_⟩
    walk_at "rd"
    refine x_ixL (SqL.of hD) (v := .str nm) rfl ?_
    refine ⟨_, _, rfl, rfl, by omega, ?_⟩
    walk_at "rd"
    clear hD
    have lbl : ((("p" : Str)) ++ nm).length ≤ 11 := by rw [Str.length_append]; omega
    have lrd : ((("q" : Str)) ++ nm).length ≤ 11 := by rw [Str.length_append]; omega
    generalize hbl : (("p" : Str)) ++ nm = bl at lbl ⊢
    generalize hrd : (("q" : Str)) ++ nm = rd at lrd ⊢
    refine x_rngC (by decide) (by decide) fun D2 nD2 => ?_
    obtain ⟨hE1, hE2⟩ := hp.ne nD2
    refine lc_range (n := 2) (fun i H4 => Hold (∃ l : List Str, l.length = i ∧ (∀ x ∈ l, IsPr x) ∧ H4 D2 = some (.lst (l.map V.str)) ∧ PenL H4 d cl ns (n + 6 + i))) ⟨[], rfl, fun _ h => (by cases h), upd_same, hp.mono (same_upd nD2)⟩ ?_ ?_
    · rintro i H4 hi ⟨l, hl, hpr, hD, hp⟩
      walk_at "rd"
      unfold tYes
      refine x_T ?_
      walk_at "rd"
      refine ⟨d, cl, 1000, ns, n + 6 + i, rfl, hp, by omega, by decide, by decide, fun j H5 hj0 hj1 kp5 p5 => ?_⟩
      walk_at "rd"
      obtain ⟨j, rfl⟩ : ∃ k : Nat, j = k := ⟨j.toNat, by omega⟩
      refine ⟨(Nat.lt_of_le_of_lt (Nat.log2_le_self _) (by omega)), ?_⟩
      have hnew : IsPr (Str.ofString (toString ((1 : Int) + (j : Nat)))) := ⟨j, by omega, rfl⟩
      have hD5 := kp5 _ _ hD hE1
      refine ⟨_, hD5, ?_, ⟨l ++ [Str.ofString (toString ((1 : Int) + (j : Nat)))], by rw [List.length_append, hl]; rfl, fun x hx => ?_, by rw [upd_same, List.map_append]; rfl, (p5.off hE1 hE2).le (by omega)⟩⟩
      · rw [List.length_map]
        omega
      · rcases List.mem_append.mp hx with hx | hx
        · exact hpr x hx
        · rw [List.mem_singleton.mp hx]
          exact hnew
    rintro H4 ⟨l, hl, hpr, hD, hp⟩
    obtain ⟨p0, p1, rfl⟩ : ∃ a b, l = [a, b] := by
      match l, hl with
      | [a, b], _ => exact ⟨a, b, rfl⟩
    have hp0 := hpr p0 (by simp)
    have hp1 := hpr p1 (by simp)
    have lp0 := pr_len hp0
    have lp1 := pr_len hp1
    clear hpr hl
    have l_m : (("mode " : Str)).length = 5 := by decide +kernel
    have l_s : (("start " : Str)).length = 6 := by decide +kernel
    have l_w : (("do w " : Str)).length = 5 := by decide +kernel
    have l_v : (("do v " : Str)).length = 5 := by decide +kernel
    have l_e : (("=" : Str)).length = 1 := by decide +kernel
    have l_b : ((" " : Str)).length = 1 := by decide +kernel
    have lj := join5_len ink bl p0 rd p1
    have lA := Str.length_append ("start " : Str) ink
    have lB := Str.length_append (("start " : Str) ++ ink) (" " : Str)
    have lW := Str.length_append ("do w " : Str) ink
    have lW2 := Str.length_append (("do w " : Str) ++ ink) ("=" : Str)
    have lV := Str.length_append ("do v " : Str) ink
    have lV2 := Str.length_append (("do v " : Str) ++ ink) ("=" : Str)
    walk_at "rd"
    refine x_ixL (SqL.of hD) (v := .str p0) rfl ?_
    walk_at "rd"
    refine x_ixL (SqL.of hD) (v := .str p1) rfl ?_
    walk_at "rd"
    intro q nq
    refine ⟨_, q, [ink, bl, p0, rd, p1], rfl, rfl, Or.inl (SqL.of upd_same), by simp; omega, ?_⟩
    replace hp := hp.mono (same_upd (o := .lst [.str ink, .str bl, .str p0, .str rd, .str p1]) nq)
    generalize upd H4 q _ = H5 at hp ⊢
    walk_at "lens"
    intro la nla
    replace hp := hp.mono (same_upd (o := .lst [.str (("mode " : Str) ++ Txt.join " " [ink, bl, p0, rd, p1]), .str ((("start " : Str) ++ ink ++ (" " : Str)) ++ rd), .str "proc main"]) nla)
    have ela : upd H5 la (.lst [.str (("mode " : Str) ++ Txt.join " " [ink, bl, p0, rd, p1]), .str ((("start " : Str) ++ ink ++ (" " : Str)) ++ rd), .str "proc main"]) la = _ := upd_same
    generalize upd H5 la _ = H6 at hp ela ⊢
    walk_at "lens"
    intro lb nlb
    have sb := same_upd (o := .lst [.str "loop", .str "either", .str ((("do w " : Str) ++ ink ++ ("=" : Str)) ++ bl), .str "or", .str "call side", .str "end", .str "end", .str "end"]) nlb
    replace hp := hp.mono sb
    replace ela := sb _ _ ela
    refine ⟨la, lb, _, _, rfl, rfl, ela, upd_same, by simp; omega, fun lc nlc => ?_⟩
    generalize upd H6 lb _ = H7 at hp ela nlc ⊢
    have sc := same_upd (o := .lst ([.str (("mode " : Str) ++ Txt.join " " [ink, bl, p0, rd, p1]), .str ((("start " : Str) ++ ink ++ (" " : Str)) ++ rd), .str "proc main"] ++ [.str "loop", .str "either", .str ((("do w " : Str) ++ ink ++ ("=" : Str)) ++ bl), .str "or", .str "call side", .str "end", .str "end", .str "end"])) nlc
    replace hp := hp.mono sc
    have elc : upd H7 lc (.lst ([.str (("mode " : Str) ++ Txt.join " " [ink, bl, p0, rd, p1]), .str ((("start " : Str) ++ ink ++ (" " : Str)) ++ rd), .str "proc main"] ++ [.str "loop", .str "either", .str ((("do w " : Str) ++ ink ++ ("=" : Str)) ++ bl), .str "or", .str "call side", .str "end", .str "end", .str "end"])) lc = _ := upd_same
    clear ela sc sb
    generalize upd H7 lc _ = H8 at hp elc ⊢
    walk_at "lens"
    intro ld nld
    have sd := same_upd (o := .lst [.str "proc side", .str ((("do v " : Str) ++ ink ++ ("=" : Str)) ++ rd), .str "end"]) nld
    replace hp := hp.mono sd
    replace elc := sd _ _ elc
    refine ⟨lc, ld, _, _, rfl, rfl, elc, upd_same, by simp; omega, fun le nle => ?_⟩
    generalize upd H8 ld _ = H9 at hp elc nle ⊢
    have ele : upd H9 le (.lst (([.str (("mode " : Str) ++ Txt.join " " [ink, bl, p0, rd, p1]), .str ((("start " : Str) ++ ink ++ (" " : Str)) ++ rd), .str "proc main"] ++ [.str "loop", .str "either", .str ((("do w " : Str) ++ ink ++ ("=" : Str)) ++ bl), .str "or", .str "call side", .str "end", .str "end", .str "end"]) ++ [.str "proc side", .str ((("do v " : Str) ++ ink ++ ("=" : Str)) ++ rd), .str "end"])) le = some (.lst ((rowsL ink bl rd p0 p1).map V.str)) := upd_same
    replace hp := hp.mono (same_upd (o := .lst (([.str (("mode " : Str) ++ Txt.join " " [ink, bl, p0, rd, p1]), .str ((("start " : Str) ++ ink ++ (" " : Str)) ++ rd), .str "proc main"] ++ [.str "loop", .str "either", .str ((("do w " : Str) ++ ink ++ ("=" : Str)) ++ bl), .str "or", .str "call side", .str "end", .str "end", .str "end"]) ++ [.str "proc side", .str ((("do v " : Str) ++ ink ++ ("=" : Str)) ++ rd), .str "end"])) nle)
    clear elc sd
    generalize upd H9 le _ = H10 at hp ele ⊢
    walk_at "rd"
    intro wa nwa
    have ewa : upd H10 wa (.lst [.int 4]) wa = some (.lst ((wayL []).map V.int)) := upd_same
    have sw := same_upd (o := .lst [.int 4]) nwa
    replace hp := hp.mono sw
    replace ele := sw _ _ ele
    clear sw
    generalize upd H10 wa _ = H11 at hp ele ewa ⊢
    walk_at "rd"
    refine x_rg ?_
    walk_at "rd"
    refine ⟨d, cl, 6, ns, _, rfl, hp, by omega, by decide, by decide, fun j H12 hj0 hj1 kp12 p12 => ?_⟩
    obtain ⟨dn, hdn⟩ : ∃ kv, H11 d = some (.dK kv) := let ⟨_, _, q, _⟩ := hp; ⟨_, q.dc⟩
    have wad : wa ≠ d := ne_of ewa hdn fun z => by cases z
    have led : le ≠ d := ne_of ele hdn fun z => by cases z
    replace ewa := kp12 _ _ ewa wad
    replace ele := kp12 _ _ ele led
    walk_at "rd"
    refine ⟨by omega, by omega, for_range (n := j.toNat) (fun i σ H' => Hold (∃ (wb : Addr) (bs : List Bool) (x9 : Option V), σ = [some (V.ref d), some (V.ref D), none, some (V.str ink), some (V.str bl), some (V.str rd), some (V.ref D2), some (V.ref le), some (V.ref wb), x9] ∧ PenL H' d cl ns (n + 9 + i) ∧ H' le = some (.lst ((rowsL ink bl rd p0 p1).map V.str)) ∧ H' wb = some (.lst ((wayL bs).map V.int)) ∧ wb ≠ d ∧ bs.length = i))
      ⟨wa, [], none, rfl, p12.le (by omega), ele, ewa, wad, rfl⟩ ?_ ?_⟩
    · rintro i σ H13 hi ⟨wb, bs, x9, rfl, p13, ele, ewb, wbd, hbs⟩
      walk_at "rd"
      refine ⟨d, cl, 2, ns, _, rfl, p13, by omega, by decide, by decide, fun y H14 hy0 hy1 kp14 p14 => ?_⟩
      replace ewb := kp14 _ _ ewb wbd
      replace ele := kp14 _ _ ele led
      have hwl := way_len bs
      walk_at "rd"
      refine x_D (fun h1 => ?_) (fun h1 => ?_)
      · walk_at "rd"
        intro l1 nl1
        have s1 := same_upd (o := .lst [.int 5, .int 6, .int 7, .int 10]) nl1
        replace p14 := p14.mono s1
        replace ewb := s1 _ _ ewb
        replace ele := s1 _ _ ele
        refine ⟨wb, l1, _, _, rfl, rfl, ewb, upd_same, by rw [List.length_map]; simp; omega, fun w2 nw2 => ?_⟩
        have s2 := same_upd (o := .lst ((wayL bs).map V.int ++ [.int 5, .int 6, .int 7, .int 10])) nw2
        walk_at "rd"
        exact ⟨w2, bs ++ [true], _, rfl, (p14.mono s2).le (by omega), s2 _ _ ele, by rw [upd_same, seg_take, List.map_append]; rfl, (p14.ne nw2).1, by rw [List.length_append, hbs]; rfl⟩
      · walk_at "rd"
        intro l1 nl1
        have s1 := same_upd (o := .lst [.int 5, .int 8, .int 13, .int 14, .int 9, .int 10]) nl1
        replace p14 := p14.mono s1
        replace ewb := s1 _ _ ewb
        replace ele := s1 _ _ ele
        refine ⟨wb, l1, _, _, rfl, rfl, ewb, upd_same, by rw [List.length_map]; simp; omega, fun w2 nw2 => ?_⟩
        have s2 := same_upd (o := .lst ((wayL bs).map V.int ++ [.int 5, .int 8, .int 13, .int 14, .int 9, .int 10])) nw2
        walk_at "rd"
        exact ⟨w2, bs ++ [false], _, rfl, (p14.mono s2).le (by omega), s2 _ _ ele, by rw [upd_same, seg_take, List.map_append]; rfl, (p14.ne nw2).1, by rw [List.length_append, hbs]; rfl⟩
    · rintro σ H13 ⟨wb, bs, x9, rfl, p13, ele, ewb, wbd, hbs⟩
      have hwl := way_len bs
      walk_at "rd"
      intro l1 nl1
      have s1 := same_upd (o := .lst [.int 11]) nl1
      replace ewb := s1 _ _ ewb
      replace ele := s1 _ _ ele
      refine ⟨wb, l1, _, _, rfl, rfl, ewb, upd_same, by rw [List.length_map]; simp; omega, fun w2 nw2 => ?_⟩
      have s2 := same_upd (o := .lst ((wayL bs).map V.int ++ [.int 11])) nw2
      replace ele := s2 _ _ ele
      have ew2 : upd (upd H13 l1 (.lst [.int 11])) w2 (.lst ((wayL bs).map V.int ++ [.int 11])) w2 = some (.lst ((wayL bs ++ [11]).map V.int)) := by rw [upd_same, List.map_append]; rfl
      generalize upd (upd H13 l1 _) w2 _ = H15 at ele ew2 ⊢
      walk_at "rd"
      intro t nt
      have s3 := same_upd (o := .tup [.ref le, .ref w2, .str ink, .str bl]) nt
      subst hbl hrd
      exact k t le w2 _ ink nm p0 p1 bs hink hnm hp0 hp1 (by omega) upd_same (s3 _ _ ele) (s3 _ _ ew2)
end
end MP
end
section
namespace MP
open PySem L2
/-! ### law k14: what its text reads as -/
def RK (ink bl rd : Str) (n0 n1 : Int) (q1 q6 q7 q13 : Addr) : RdM := ⟨[(ink, q1, [(bl, n0), (rd, n1)])], [(ink, rd)], [("main", 3), ("side", 12)],
  [(1, "mode"), (2, "start"), (3, "proc"), (4, "loop"), (5, "either"), (6, "do"), (7, "or"), (8, "call"), (9, "end"), (10, "end"), (11, "end"), (12, "proc"), (13, "do"), (14, "end")],
  [(4, "main"), (5, "main"), (6, "main"), (7, "main"), (8, "main"), (9, "main"), (10, "main"), (11, "main"), (13, "side"), (14, "side")],
  [(7, 5), (5, 9), (9, 5), (4, 10), (10, 4)], [(5, q7, [7])], [(8, "side")], [], [(6, q6, [(ink, bl)]), (13, q13, [(ink, rd)])], [("main", 11), ("side", 14)], none, []⟩
def beK : List (Int × Int) := [(1, 2), (2, 3), (3, 4), (4, 5), (5, 6), (6, 7), (7, 8), (8, 9), (9, 10), (10, 11), (11, 12), (12, 13), (13, 14)]
def fiK : List (Str × Int) := [("main", 4), ("side", 13)]
def rsK : List (Int × Int) := [(11, 1), (14, 1), (4, 2), (10, 2), (13, 2), (7, 3), (9, 3), (6, 4), (8, 6), (5, 5)]
section
variable {ink bl rd : Str} {n0 n1 : Int} {q1 q6 q7 q13 : Addr}
theorem be_RK : behM (RK ink bl rd n0 n1 q1 q6 q7 q13) = beK := by kernel_rfl
theorem fi_RK : firM (RK ink bl rd n0 n1 q1 q6 q7 q13) = fiK := by kernel_rfl
theorem tabs_RK : tabsL (RK ink bl rd n0 n1 q1 q6 q7 q13) beK fiK 6 [] [] = some (rsK, []) := by kernel_rfl
theorem lines_RK : linesL (RK ink bl rd n0 n1 q1 q6 q7 q13) beK fiK rsK [] 4 none false [(4, true)] [] = some [4, 11] := by kernel_rfl
theorem short_RK : walkedL (RK ink bl rd n0 n1 q1 q6 q7 q13) beK fiK [4, 11] = some (.inr []) := by kernel_rfl
theorem comp_RK : compL (RK ink bl rd n0 n1 q1 q6 q7 q13) beK fiK [4, 11] [] = some true := by kernel_rfl
theorem seg_RK (b : Bool) (rest : List Int) (i : Nat) (pv : Int) (h : pv = 4 ∨ pv = 10) : walkL (RK ink bl rd n0 n1 q1 q6 q7 q13) beK fiK (segL b ++ rest) i (some pv) [] [5, 11] = walkL (RK ink bl rd n0 n1 q1 q6 q7 q13) beK fiK rest (i + (segL b).length) (some 10) [] [5, 11] := by
  rcases h with rfl | rfl <;> cases b
  · kernel_rfl
  · kernel_rfl
  · kernel_rfl
  · kernel_rfl
theorem segs_RK : ∀ (bs : List Bool) (i : Nat) (pv : Int), pv = 4 ∨ pv = 10 → walkL (RK ink bl rd n0 n1 q1 q6 q7 q13) beK fiK (bs.flatMap segL ++ [11]) i (some pv) [] [5, 11] = some (.inr [])
  | [], i, pv, h => by
    rcases h with rfl | rfl
    · kernel_rfl
    · kernel_rfl
  | b :: r, i, pv, h => by
    rw [List.flatMap_cons, List.append_assoc, seg_RK b _ i pv h]
    exact segs_RK r _ 10 (.inr rfl)
theorem way_RK (bs : List Bool) : walkedL (RK ink bl rd n0 n1 q1 q6 q7 q13) beK fiK (wayL bs ++ [11]) = some (.inr []) := by
  have h := segs_RK (ink := ink) (bl := bl) (rd := rd) (n0 := n0) (n1 := n1) (q1 := q1) (q6 := q6) (q7 := q7) (q13 := q13) bs 1 4 (.inl rfl)
  rw [← h]
  show walkedL _ _ _ (4 :: (bs.flatMap segL ++ [11])) = _
  generalize bs.flatMap segL ++ [11] = l
  kernel_rfl
theorem wcomp_RK (bs : List Bool) : compL (RK ink bl rd n0 n1 q1 q6 q7 q13) beK fiK (wayL bs ++ [11]) [] = some true := by
  unfold compL
  rw [List.getLast?_append]
  kernel_rfl
end
theorem RunW_row {nm pr : Str → Bool} {val : Str → Int} {it : Str → Option (Str × Str)} {wd : Str → List Str} {F : RdM → Prop} {B : Int → Prop} {row w : Str} {ws rows : List Str} {R : RdM} {l : Int} (hw : wd row = w :: ws) (ok : okLine nm pr val it R l (w :: ws) = true)
    (h : ∀ q, RunW nm pr val it wd F B rows (stLine nm pr val it R l q (w :: ws)) (l + 1)) : RunW nm pr val it wd F B (row :: rows) R l :=
  ⟨fun e => (by rw [hw] at e; cases e), fun _ => ⟨fun e => (by rw [hw, ok] at e; cases e), fun _ q => (by rw [hw]; exact h q)⟩⟩
end MP
end
section
namespace MP
open PySem L2
/-! ### law k14: the rows are read -/
def noC (c : Nat) (z : Str) : Bool := !decide (c ∈ TL.tl z)
theorem noC_app (c : Nat) (a b : Str) : noC c (a ++ b) = (noC c a && noC c b) := by
  unfold noC
  rw [TL.tl_append]
  simp [List.mem_append]
theorem noC_no {c : Nat} {z : Str} (h : noC c z = true) : c ∉ TL.tl z := by
  unfold noC at h
  simpa using h
def okW (w : Str) : Bool := noC 32 w && !decide (w = ("" : Str))
theorem words_join {ws : List Str} (hne : ws ≠ []) (h : ∀ w ∈ ws, okW w = true) : wordsOf (Str.join (" " : Str) ws) = ws := by
  unfold wordsOf
  rw [← TL.join_eq, TL.split_join (y := (" " : Str)) (s := 32) (S := []) (by decide +kernel) (by decide +kernel) hne fun p hp => noC_no (Bool.and_eq_true_iff.mp (h p hp)).1]
  exact List.filter_eq_self.mpr fun w hw => (Bool.and_eq_true_iff.mp (h w hw)).2
/-- what is asked of a name -/
def nmB (z : Str) : Bool := isName z && (isName (("p" : Str) ++ z) && (isName (("q" : Str) ++ z) && (okW z && (noC 10 z && noC 61 z))))
theorem nm_ok {z : Str} (h : IsNm z) : nmB z = true := nm_all (p := nmB) (by decide +kernel) h
def prB (z : Str) : Bool := isPrice z && (okW z && noC 10 z)
theorem pr_ok {z : Str} (h : IsPr z) : prB z = true := let ⟨_, _, e⟩ := pr_all (p := fun _ z => prB z) (by decide +kernel) h; e
theorem and3 {a b c : Bool} (h : (a && (b && c)) = true) : a = true ∧ b = true ∧ c = true := by
  cases a <;> cases b <;> cases c <;> first | exact ⟨rfl, rfl, rfl⟩ | cases h
theorem and6 {a b c d e f : Bool} (h : (a && (b && (c && (d && (e && f))))) = true) : a = true ∧ b = true ∧ c = true ∧ d = true ∧ e = true ∧ f = true := by
  cases a <;> cases b <;> cases c <;> cases d <;> cases e <;> cases f <;> first | exact ⟨rfl, rfl, rfl, rfl, rfl, rfl⟩ | cases h
end MP
end
section
namespace MP
open PySem L2
def K1 (ink bl rd : Str) (n0 n1 : Int) (q1 : Addr) : RdM := { RdM.empty with modes := [(ink, q1, [(bl, n0), (rd, n1)])], kinds := [(1, "mode")] }
def K2 (ink bl rd : Str) (n0 n1 : Int) (q1 : Addr) : RdM := { RdM.empty with modes := [(ink, q1, [(bl, n0), (rd, n1)])], begins := [(ink, rd)], kinds := [(1, "mode"), (2, "start")] }
def K5 (ink bl rd : Str) (n0 n1 : Int) (q1 q5 : Addr) : RdM := ⟨[(ink, q1, [(bl, n0), (rd, n1)])], [(ink, rd)], [("main", 3)], [(1, "mode"), (2, "start"), (3, "proc"), (4, "loop"), (5, "either")], [(4, "main"), (5, "main")], [], [(5, q5, [])], [], [], [], [], some "main", [4, 5]⟩
def K6 (ink bl rd : Str) (n0 n1 : Int) (q1 q5 q6 : Addr) : RdM := ⟨[(ink, q1, [(bl, n0), (rd, n1)])], [(ink, rd)], [("main", 3)], [(1, "mode"), (2, "start"), (3, "proc"), (4, "loop"), (5, "either"), (6, "do")], [(4, "main"), (5, "main"), (6, "main")], [], [(5, q5, [])], [], [], [(6, q6, [(ink, bl)])], [], some "main", [4, 5]⟩
def K12 (ink bl rd : Str) (n0 n1 : Int) (q1 q6 q7 : Addr) : RdM := ⟨[(ink, q1, [(bl, n0), (rd, n1)])], [(ink, rd)], [("main", 3), ("side", 12)],
  [(1, "mode"), (2, "start"), (3, "proc"), (4, "loop"), (5, "either"), (6, "do"), (7, "or"), (8, "call"), (9, "end"), (10, "end"), (11, "end"), (12, "proc")],
  [(4, "main"), (5, "main"), (6, "main"), (7, "main"), (8, "main"), (9, "main"), (10, "main"), (11, "main")],
  [(7, 5), (5, 9), (9, 5), (4, 10), (10, 4)], [(5, q7, [7])], [(8, "side")], [], [(6, q6, [(ink, bl)])], [("main", 11)], some "side", []⟩
def K13 (ink bl rd : Str) (n0 n1 : Int) (q1 q6 q7 q13 : Addr) : RdM := ⟨[(ink, q1, [(bl, n0), (rd, n1)])], [(ink, rd)], [("main", 3), ("side", 12)],
  [(1, "mode"), (2, "start"), (3, "proc"), (4, "loop"), (5, "either"), (6, "do"), (7, "or"), (8, "call"), (9, "end"), (10, "end"), (11, "end"), (12, "proc"), (13, "do")],
  [(4, "main"), (5, "main"), (6, "main"), (7, "main"), (8, "main"), (9, "main"), (10, "main"), (11, "main"), (13, "side")],
  [(7, 5), (5, 9), (9, 5), (4, 10), (10, 4)], [(5, q7, [7])], [(8, "side")], [], [(6, q6, [(ink, bl)]), (13, q13, [(ink, rd)])], [("main", 11)], some "side", []⟩
section
variable {nm pr : Str → Bool} {val : Str → Int} {it : Str → Option (Str × Str)} {ink bl rd p0 p1 : Str} {q : Addr}
theorem mode_items (h1 : nm bl = true) (h2 : nm rd = true) (h3 : pr p0 = true) (h4 : pr p1 = true) (hne : bl ≠ rd) : modeItems nm pr val [bl, p0, rd, p1] [] = some [(bl, val p0), (rd, val p1)] := by
  have e1 : putG ([] : List (Str × Int)) bl (val p0) = [(bl, val p0)] := rfl
  have e2 : look [(bl, val p0)] rd = none := by unfold look; rw [if_neg hne]; rfl
  have e3 : putG [(bl, val p0)] rd (val p1) = [(bl, val p0), (rd, val p1)] := by unfold putG; rw [e2]; rfl
  have c1 : (nm bl && !(look ([] : List (Str × Int)) bl).isSome && pr p0) = true := by rw [h1, h3]; rfl
  have c2 : (nm rd && !(look [(bl, val p0)] rd).isSome && pr p1) = true := by rw [h2, h4, e2]; rfl
  unfold modeItems
  rw [if_pos c1, e1]
  unfold modeItems
  rw [if_pos c2, e3]
  rfl
theorem st1 (h1 : nm bl = true) (h2 : nm rd = true) (h3 : pr p0 = true) (h4 : pr p1 = true) (hne : bl ≠ rd) : stLine nm pr val it RdM.empty 1 q ["mode", ink, bl, p0, rd, p1] = K1 ink bl rd (val p0) (val p1) q := by
  have e : stLine nm pr val it RdM.empty 1 q ["mode", ink, bl, p0, rd, p1] = (match modeItems nm pr val [bl, p0, rd, p1] [] with | some vs => { noteK RdM.empty 1 "mode" with modes := putG (noteK RdM.empty 1 "mode").modes ink (q, vs) } | none => noteK RdM.empty 1 "mode") := by kernel_rfl
  rw [e, mode_items h1 h2 h3 h4 hne]
  kernel_rfl
theorem ok1 (h0 : nm ink = true) (h1 : nm bl = true) (h2 : nm rd = true) (h3 : pr p0 = true) (h4 : pr p1 = true) (hne : bl ≠ rd) : okLine nm pr val it RdM.empty 1 ["mode", ink, bl, p0, rd, p1] = true := by
  have e : okLine nm pr val it RdM.empty 1 ["mode", ink, bl, p0, rd, p1] = (nm ink && true && true && (modeItems nm pr val [bl, p0, rd, p1] []).isSome) := by kernel_rfl
  rw [e, mode_items h1 h2 h3 h4 hne, h0]
  rfl
theorem look_1 {α : Type} (k : Str) (v : α) : look [(k, v)] k = some v := if_pos rfl
theorem look_2 {α : Type} {k j : Str} (v w : α) (h : k ≠ j) : look [(k, v), (j, w)] j = some w := (if_neg h).trans (if_pos rfl)
theorem st2 {n0 n1 : Int} {q1 : Addr} : stLine nm pr val it (K1 ink bl rd n0 n1 q1) (1 + 1) q ["start", ink, rd] = K2 ink bl rd n0 n1 q1 := by kernel_rfl
theorem ok2 {n0 n1 : Int} {q1 : Addr} (hne : bl ≠ rd) : okLine nm pr val it (K1 ink bl rd n0 n1 q1) (1 + 1) ["start", ink, rd] = true := by
  have e : okLine nm pr val it (K1 ink bl rd n0 n1 q1) (1 + 1) ["start", ink, rd] = (true && (look [(ink, q1, [(bl, n0), (rd, n1)])] ink).isSome && !(look ([] : List (Str × Str)) ink).isSome && (match look [(ink, q1, [(bl, n0), (rd, n1)])] ink with | some x => (look x.2 rd).isSome | none => false)) := by kernel_rfl
  rw [e, look_1]
  show (look [(bl, n0), (rd, n1)] rd).isSome = true
  rw [look_2 _ _ hne]
  rfl
theorem do_items {n0 n1 : Int} {q1 : Addr} {R : RdM} {w v : Str} (hw : it w = some (ink, v)) (hR : R.modes = [(ink, q1, [(bl, n0), (rd, n1)])]) (hv : (look [(bl, n0), (rd, n1)] v).isSome = true) : doItems it R [w] [] = some [(ink, v)] := by
  unfold doItems
  rw [hw]
  show (match look R.modes ink with | none => none | some d => _) = _
  rw [hR, look_1]
  show (if (look ([] : List (Str × Str)) ink).isSome = true then none else if (!decide (v = ("?" : Str)) && !(look [(bl, n0), (rd, n1)] v).isSome) = true then none else doItems it R [] (putG [] ink v)) = _
  rw [hv, Bool.not_true, Bool.and_false]
  rfl
end
end MP
end
section
namespace MP
open PySem L2
section
variable {ink bl rd p0 p1 : Str}
theorem okW_no {z : Str} (h : okW z = true) : noC 32 z = true := (Bool.and_eq_true_iff.mp h).1
theorem eq_join (a b : Str) : (a ++ ("=" : Str)) ++ b = Str.join ("=" : Str) [a, b] := rfl
theorem okW_item {a b : Str} (ha : okW a = true) (hb : okW b = true) : okW ((a ++ ("=" : Str)) ++ b) = true := by
  unfold okW
  rw [noC_app, noC_app, okW_no ha, okW_no hb, decide_eq_false fun e => ?_]
  · decide +kernel
  · have h := congrArg Str.length e
    rw [Str.length_append, Str.length_append] at h
    have e1 : (("=" : Str)).length = 1 := by decide +kernel
    have e2 : (("" : Str)).length = 0 := by decide +kernel
    omega
theorem item_eq {a b : Str} (ha : noC 61 a = true) (hb : noC 61 b = true) (na : isName a = true) (nb : isName b = true) : itemOf ((a ++ ("=" : Str)) ++ b) = some (a, b) := by
  unfold itemOf
  rw [eq_join, ← TL.join_eq, TL.split_join (y := ("=" : Str)) (s := 61) (S := []) (by decide +kernel) (by decide +kernel) (by simp) fun p hp => ?_]
  · unfold itemP
    simp [na, nb]
  · simp only [List.mem_cons, List.not_mem_nil, or_false] at hp
    rcases hp with rfl | rfl
    · exact noC_no ha
    · exact noC_no hb
theorem all_ok {ws : List Str} (h : ws.all okW = true) : ∀ w ∈ ws, okW w = true := List.all_eq_true.mp h
theorem w1 (h0 : okW ink = true) (h1 : okW bl = true) (h2 : okW rd = true) (h3 : okW p0 = true) (h4 : okW p1 = true) : wordsOf (("mode " : Str) ++ Txt.join (" " : Str) [ink, bl, p0, rd, p1]) = (["mode", ink, bl, p0, rd, p1] : List Str) := by
  have e : ("mode " : Str) ++ Txt.join (" " : Str) [ink, bl, p0, rd, p1] = Str.join (" " : Str) ["mode", ink, bl, p0, rd, p1] := by
    rw [TL.join_eq, show ("mode " : Str) = ("mode" : Str) ++ (" " : Str) from by decide +kernel]
    rfl
  rw [e]
  refine words_join (by simp) (all_ok ?_)
  have hm : okW "mode" = true := by decide +kernel
  simp only [List.all_cons, List.all_nil, hm, h0, h1, h2, h3, h4, Bool.and_true]
theorem w2 (h0 : okW ink = true) (h2 : okW rd = true) : wordsOf ((("start " : Str) ++ ink ++ (" " : Str)) ++ rd) = (["start", ink, rd] : List Str) := by
  have e : (("start " : Str) ++ ink ++ (" " : Str)) ++ rd = Str.join (" " : Str) ["start", ink, rd] := by
    rw [show ("start " : Str) = ("start" : Str) ++ (" " : Str) from by decide +kernel]
    show _ = ("start" : Str) ++ (" " : Str) ++ (ink ++ (" " : Str) ++ rd)
    simp only [Str.append_assoc]
  rw [e]
  refine words_join (by simp) (all_ok ?_)
  have hm : okW "start" = true := by decide +kernel
  simp only [List.all_cons, List.all_nil, hm, h0, h2, Bool.and_true]
theorem w6 (h0 : okW ink = true) (h1 : okW bl = true) : wordsOf ((("do w " : Str) ++ ink ++ ("=" : Str)) ++ bl) = (["do", "w", (ink ++ ("=" : Str)) ++ bl] : List Str) := by
  have e : (("do w " : Str) ++ ink ++ ("=" : Str)) ++ bl = Str.join (" " : Str) ["do", "w", (ink ++ ("=" : Str)) ++ bl] := by
    rw [show ("do w " : Str) = ("do" : Str) ++ (" " : Str) ++ (("w" : Str) ++ (" " : Str)) from by decide +kernel]
    show _ = ("do" : Str) ++ (" " : Str) ++ (("w" : Str) ++ (" " : Str) ++ ((ink ++ ("=" : Str)) ++ bl))
    simp only [Str.append_assoc]
  rw [e]
  refine words_join (by simp) (all_ok ?_)
  have hm : okW "do" = true := by decide +kernel
  have hw : okW "w" = true := by decide +kernel
  simp only [List.all_cons, List.all_nil, hm, hw, okW_item h0 h1, Bool.and_true]
theorem w13 (h0 : okW ink = true) (h1 : okW bl = true) : wordsOf ((("do v " : Str) ++ ink ++ ("=" : Str)) ++ bl) = (["do", "v", (ink ++ ("=" : Str)) ++ bl] : List Str) := by
  have e : (("do v " : Str) ++ ink ++ ("=" : Str)) ++ bl = Str.join (" " : Str) ["do", "v", (ink ++ ("=" : Str)) ++ bl] := by
    rw [show ("do v " : Str) = ("do" : Str) ++ (" " : Str) ++ (("v" : Str) ++ (" " : Str)) from by decide +kernel]
    show _ = ("do" : Str) ++ (" " : Str) ++ (("v" : Str) ++ (" " : Str) ++ ((ink ++ ("=" : Str)) ++ bl))
    simp only [Str.append_assoc]
  rw [e]
  refine words_join (by simp) (all_ok ?_)
  have hm : okW "do" = true := by decide +kernel
  have hw : okW "v" = true := by decide +kernel
  simp only [List.all_cons, List.all_nil, hm, hw, okW_item h0 h1, Bool.and_true]
theorem RunW_cast {nm pr : Str → Bool} {val : Str → Int} {it : Str → Option (Str × Str)} {wd : Str → List Str} {F : RdM → Prop} {B : Int → Prop} {rows : List Str} {R R' : RdM} {l : Int} (e : R = R') (h : RunW nm pr val it wd F B rows R' l) : RunW nm pr val it wd F B rows R l := e ▸ h
variable {n0 n1 : Int} {q1 q5 q6 q7 q13 q : Addr} {w : Str}
theorem ok6 (hw : itemOf w = some (ink, bl)) : okLine isName isPrice priceOf itemOf (K5 ink bl rd n0 n1 q1 q5) (1 + 1 + 1 + 1 + 1 + 1) ["do", "w", w] = true := by
  have e : okLine isName isPrice priceOf itemOf (K5 ink bl rd n0 n1 q1 q5) (1 + 1 + 1 + 1 + 1 + 1) ["do", "w", w] = (doItems itemOf { noteK (K5 ink bl rd n0 n1 q1 q5) (1 + 1 + 1 + 1 + 1 + 1) "do" with owners := putG (K5 ink bl rd n0 n1 q1 q5).owners (1 + 1 + 1 + 1 + 1 + 1) "main" } [w] []).isSome := by kernel_rfl
  rw [e, do_items (n0 := n0) (n1 := n1) (q1 := q1) (bl := bl) (rd := rd) hw rfl (by rw [show look [(bl, n0), (rd, n1)] bl = some n0 from if_pos rfl]; rfl)]
  rfl
theorem st6 (hw : itemOf w = some (ink, bl)) : stLine isName isPrice priceOf itemOf (K5 ink bl rd n0 n1 q1 q5) (1 + 1 + 1 + 1 + 1 + 1) q ["do", "w", w] = K6 ink bl rd n0 n1 q1 q5 q := by
  have e : stLine isName isPrice priceOf itemOf (K5 ink bl rd n0 n1 q1 q5) (1 + 1 + 1 + 1 + 1 + 1) q ["do", "w", w] = (match doItems itemOf { noteK (K5 ink bl rd n0 n1 q1 q5) (1 + 1 + 1 + 1 + 1 + 1) "do" with owners := putG (K5 ink bl rd n0 n1 q1 q5).owners (1 + 1 + 1 + 1 + 1 + 1) "main" } [w] [] with
      | some its => { noteK (K5 ink bl rd n0 n1 q1 q5) (1 + 1 + 1 + 1 + 1 + 1) "do" with owners := putG (K5 ink bl rd n0 n1 q1 q5).owners (1 + 1 + 1 + 1 + 1 + 1) "main", works := putG [] (1 + 1 + 1 + 1 + 1 + 1) (q, its) }
      | none => { noteK (K5 ink bl rd n0 n1 q1 q5) (1 + 1 + 1 + 1 + 1 + 1) "do" with owners := putG (K5 ink bl rd n0 n1 q1 q5).owners (1 + 1 + 1 + 1 + 1 + 1) "main" }) := by kernel_rfl
  rw [e, do_items (n0 := n0) (n1 := n1) (q1 := q1) (bl := bl) (rd := rd) hw rfl (by rw [show look [(bl, n0), (rd, n1)] bl = some n0 from if_pos rfl]; rfl)]
  kernel_rfl
theorem ok13 (hw : itemOf w = some (ink, rd)) (hne : bl ≠ rd) : okLine isName isPrice priceOf itemOf (K12 ink bl rd n0 n1 q1 q6 q7) (1 + 1 + 1 + 1 + 1 + 1 + 1 + 1 + 1 + 1 + 1 + 1 + 1) ["do", "v", w] = true := by
  have e : okLine isName isPrice priceOf itemOf (K12 ink bl rd n0 n1 q1 q6 q7) (1 + 1 + 1 + 1 + 1 + 1 + 1 + 1 + 1 + 1 + 1 + 1 + 1) ["do", "v", w] = (doItems itemOf { noteK (K12 ink bl rd n0 n1 q1 q6 q7) (1 + 1 + 1 + 1 + 1 + 1 + 1 + 1 + 1 + 1 + 1 + 1 + 1) "do" with owners := putG (K12 ink bl rd n0 n1 q1 q6 q7).owners (1 + 1 + 1 + 1 + 1 + 1 + 1 + 1 + 1 + 1 + 1 + 1 + 1) "side" } [w] []).isSome := by kernel_rfl
  rw [e, do_items (n0 := n0) (n1 := n1) (q1 := q1) (bl := bl) (rd := rd) hw rfl (by rw [look_2 _ _ hne]; rfl)]
  rfl
theorem st13 (hw : itemOf w = some (ink, rd)) (hne : bl ≠ rd) : stLine isName isPrice priceOf itemOf (K12 ink bl rd n0 n1 q1 q6 q7) (1 + 1 + 1 + 1 + 1 + 1 + 1 + 1 + 1 + 1 + 1 + 1 + 1) q ["do", "v", w] = K13 ink bl rd n0 n1 q1 q6 q7 q := by
  have e : stLine isName isPrice priceOf itemOf (K12 ink bl rd n0 n1 q1 q6 q7) (1 + 1 + 1 + 1 + 1 + 1 + 1 + 1 + 1 + 1 + 1 + 1 + 1) q ["do", "v", w] = (match doItems itemOf { noteK (K12 ink bl rd n0 n1 q1 q6 q7) (1 + 1 + 1 + 1 + 1 + 1 + 1 + 1 + 1 + 1 + 1 + 1 + 1) "do" with owners := putG (K12 ink bl rd n0 n1 q1 q6 q7).owners (1 + 1 + 1 + 1 + 1 + 1 + 1 + 1 + 1 + 1 + 1 + 1 + 1) "side" } [w] [] with
      | some its => { noteK (K12 ink bl rd n0 n1 q1 q6 q7) (1 + 1 + 1 + 1 + 1 + 1 + 1 + 1 + 1 + 1 + 1 + 1 + 1) "do" with owners := putG (K12 ink bl rd n0 n1 q1 q6 q7).owners (1 + 1 + 1 + 1 + 1 + 1 + 1 + 1 + 1 + 1 + 1 + 1 + 1) "side", works := putG [(6, q6, [(ink, bl)])] (1 + 1 + 1 + 1 + 1 + 1 + 1 + 1 + 1 + 1 + 1 + 1 + 1) (q, its) }
      | none => { noteK (K12 ink bl rd n0 n1 q1 q6 q7) (1 + 1 + 1 + 1 + 1 + 1 + 1 + 1 + 1 + 1 + 1 + 1 + 1) "do" with owners := putG (K12 ink bl rd n0 n1 q1 q6 q7).owners (1 + 1 + 1 + 1 + 1 + 1 + 1 + 1 + 1 + 1 + 1 + 1 + 1) "side" }) := by kernel_rfl
  rw [e, do_items (n0 := n0) (n1 := n1) (q1 := q1) (bl := bl) (rd := rd) hw rfl (by rw [look_2 _ _ hne]; rfl)]
  kernel_rfl
end
theorem parse_RK {ink nm p0 p1 : Str} (hi : IsNm ink) (hn : IsNm nm) (h0 : IsPr p0) (h1 : IsPr p1) {F : RdM → Prop} {B : Int → Prop} (h : ∀ q1 q6 q7 q13, F (RK ink (("p" : Str) ++ nm) (("q" : Str) ++ nm) (priceOf p0) (priceOf p1) q1 q6 q7 q13)) :
    RunW isName isPrice priceOf itemOf wordsOf F B (rowsL ink (("p" : Str) ++ nm) (("q" : Str) ++ nm) p0 p1) RdM.empty 1 := by
  obtain ⟨i1, i2, i3, i4, i5, i6⟩ := and6 (nm_ok hi)
  obtain ⟨j1, j2, j3, j4, j5, j6⟩ := and6 (nm_ok hn)
  obtain ⟨a1, a2, a3⟩ := and3 (pr_ok h0)
  obtain ⟨b1, b2, b3⟩ := and3 (pr_ok h1)
  have okp : ∀ c : Str, okW c = true → okW (c ++ nm) = true := fun c hc => by
    unfold okW
    rw [noC_app, okW_no hc, okW_no j4, decide_eq_false fun e => ?_]
    · rfl
    · have h := congrArg Str.length e
      rw [Str.length_append] at h
      have e2 : (("" : Str)).length = 0 := by decide +kernel
      have : nm = "" := by
        have hz : nm.length = 0 := by omega
        exact Str.ext' (Array.eq_empty_of_size_eq_zero hz)
      rw [this] at j4
      revert j4
      decide +kernel
  have kbl := okp "p" (by decide +kernel)
  have krd := okp "q" (by decide +kernel)
  have c61 : ∀ c : Str, noC 61 c = true → noC 61 (c ++ nm) = true := fun c hc => by rw [noC_app, hc, j6]; rfl
  have hne : ("p" : Str) ++ nm ≠ ("q" : Str) ++ nm := fun e => by
    have h := congrArg (fun z => (TL.tl z).head?) e
    simp only [TL.tl_append] at h
    have e1 : TL.tl ("p" : Str) = [112] := by decide +kernel
    have e2 : TL.tl ("q" : Str) = [113] := by decide +kernel
    rw [e1, e2] at h
    cases h
  have it6 := item_eq i6 (c61 "p" (by decide +kernel)) i1 j2
  have it13 := item_eq i6 (c61 "q" (by decide +kernel)) i1 j3
  generalize ("p" : Str) ++ nm = bl at *
  generalize ("q" : Str) ++ nm = rd at *
  refine RunW_row (w1 i4 kbl krd a2 b2) (ok1 i1 j2 j3 a1 b1 hne) fun q1 => RunW_cast (st1 j2 j3 a1 b1 hne) ?_
  refine RunW_row (w2 i4 krd) (ok2 hne) fun q2 => RunW_cast st2 ?_
  refine RunW_row (w := "proc") (ws := ["main"]) (by kernel_rfl) (by kernel_rfl) fun q3 => ?_
  refine RunW_row (w := "loop") (ws := []) (by kernel_rfl) (by kernel_rfl) fun q4 => ?_
  refine RunW_row (w := "either") (ws := []) (by kernel_rfl) (by kernel_rfl) fun q5 => RunW_cast (R' := K5 ink bl rd (priceOf p0) (priceOf p1) q1 q5) (by kernel_rfl) ?_
  refine RunW_row (w6 i4 kbl) (ok6 it6) fun q6 => RunW_cast (st6 it6) ?_
  refine RunW_row (w := "or") (ws := []) (by kernel_rfl) (by kernel_rfl) fun q7 => ?_
  refine RunW_row (w := "call") (ws := ["side"]) (by kernel_rfl) (by kernel_rfl) fun _ => ?_
  refine RunW_row (w := "end") (ws := []) (by kernel_rfl) (by kernel_rfl) fun _ => ?_
  refine RunW_row (w := "end") (ws := []) (by kernel_rfl) (by kernel_rfl) fun _ => ?_
  refine RunW_row (w := "end") (ws := []) (by kernel_rfl) (by kernel_rfl) fun _ => ?_
  refine RunW_row (w := "proc") (ws := ["side"]) (by kernel_rfl) (by kernel_rfl) fun _ => RunW_cast (R' := K12 ink bl rd (priceOf p0) (priceOf p1) q1 q6 q7) (by kernel_rfl) ?_
  refine RunW_row (w13 i4 krd) (ok13 it13 hne) fun q13 => RunW_cast (st13 it13 hne) ?_
  refine RunW_row (w := "end") (ws := []) (by kernel_rfl) (by kernel_rfl) fun _ => RunW_cast (R' := RK ink bl rd (priceOf p0) (priceOf p1) q1 q6 q7 q13) (by kernel_rfl) ?_
  exact h q1 q6 q7 q13
end MP
end
section
namespace MP
open PySem L2
/-! ### law k14: its text; steps of its calls -/
theorem sjoin_len (sep : Str) : ∀ ws : List Str, (Str.join sep ws).length ≤ (ws.map (·.length)).sum + ws.length * sep.length
  | [] => Nat.zero_le _
  | [x] => by
    show x.length ≤ _
    simp
  | x :: y :: r => by
    have h := sjoin_len sep (y :: r)
    show (x ++ sep ++ Str.join sep (y :: r)).length ≤ _
    rw [Str.length_append, Str.length_append, List.map_cons, List.sum_cons, List.length_cons, Nat.succ_mul]
    omega
section
variable {ink nm p0 p1 : Str}
theorem rows_sum (hi : IsNm ink) (hn : IsNm nm) (h0 : IsPr p0) (h1 : IsPr p1) : ((rowsL ink (("p" : Str) ++ nm) (("q" : Str) ++ nm) p0 p1).map (·.length)).sum ≤ 250 := by
  have a := nm_len hi
  have b := nm_len hn
  have c := pr_len h0
  have d := pr_len h1
  have l_m : (("mode " : Str)).length = 5 := by decide +kernel
  have l_s : (("start " : Str)).length = 6 := by decide +kernel
  have l_w : (("do w " : Str)).length = 5 := by decide +kernel
  have l_v : (("do v " : Str)).length = 5 := by decide +kernel
  have l_e : (("=" : Str)).length = 1 := by decide +kernel
  have l_b : ((" " : Str)).length = 1 := by decide +kernel
  have l_p : (("p" : Str)).length = 1 := by decide +kernel
  have l_q : (("q" : Str)).length = 1 := by decide +kernel
  have l1 : (("proc main" : Str)).length = 9 := by decide +kernel
  have l2 : (("loop" : Str)).length = 4 := by decide +kernel
  have l3 : (("either" : Str)).length = 6 := by decide +kernel
  have l4 : (("or" : Str)).length = 2 := by decide +kernel
  have l5 : (("call side" : Str)).length = 9 := by decide +kernel
  have l6 : (("end" : Str)).length = 3 := by decide +kernel
  have l7 : (("proc side" : Str)).length = 9 := by decide +kernel
  have lj := join5_len ink (("p" : Str) ++ nm) p0 (("q" : Str) ++ nm) p1
  have lp := Str.length_append ("p" : Str) nm
  have lq := Str.length_append ("q" : Str) nm
  unfold rowsL
  simp only [List.map_cons, List.map_nil, List.sum_cons, List.sum_nil, Str.length_append, lj, l_m, l_s, l_w, l_v, l_e, l_b, l_p, l_q, l1, l2, l3, l4, l5, l6, l7]
  omega
theorem rows_no (hi : IsNm ink) (hn : IsNm nm) (h0 : IsPr p0) (h1 : IsPr p1) : (rowsL ink (("p" : Str) ++ nm) (("q" : Str) ++ nm) p0 p1).all (noC 10) = true := by
  obtain ⟨_, _, _, _, i5, _⟩ := and6 (nm_ok hi)
  obtain ⟨_, _, _, _, j5, _⟩ := and6 (nm_ok hn)
  obtain ⟨_, _, a3⟩ := and3 (pr_ok h0)
  obtain ⟨_, _, b3⟩ := and3 (pr_ok h1)
  have k1 : noC 10 "mode " = true := by decide +kernel
  have k2 : noC 10 "start " = true := by decide +kernel
  have k3 : noC 10 "do w " = true := by decide +kernel
  have k4 : noC 10 "do v " = true := by decide +kernel
  have k5 : noC 10 "=" = true := by decide +kernel
  have k6 : noC 10 " " = true := by decide +kernel
  have k7 : noC 10 "p" = true := by decide +kernel
  have k8 : noC 10 "q" = true := by decide +kernel
  have l1 : noC 10 "proc main" = true := by decide +kernel
  have l2 : noC 10 "loop" = true := by decide +kernel
  have l3 : noC 10 "either" = true := by decide +kernel
  have l4 : noC 10 "or" = true := by decide +kernel
  have l5 : noC 10 "call side" = true := by decide +kernel
  have l6 : noC 10 "end" = true := by decide +kernel
  have l7 : noC 10 "proc side" = true := by decide +kernel
  unfold rowsL
  rw [TL.join_eq]
  simp only [List.all_cons, List.all_nil, Str.join, noC_app, i5, j5, a3, b3, k1, k2, k3, k4, k5, k6, k7, k8, l1, l2, l3, l4, l5, l6, l7, Bool.and_self]
theorem text_split (hi : IsNm ink) (hn : IsNm nm) (h0 : IsPr p0) (h1 : IsPr p1) : PySem.Txt.split (Txt.join ("\n" : Str) (rowsL ink (("p" : Str) ++ nm) (("q" : Str) ++ nm) p0 p1)) "\n" = rowsL ink (("p" : Str) ++ nm) (("q" : Str) ++ nm) p0 p1 :=
  TL.split_join (y := ("\n" : Str)) (s := 10) (S := []) (by decide +kernel) (by decide +kernel) (fun e => by cases e) fun p hp => noC_no (List.all_eq_true.mp (rows_no hi hn h0 h1) p hp)
theorem text_len (hi : IsNm ink) (hn : IsNm nm) (h0 : IsPr p0) (h1 : IsPr p1) : (Txt.join ("\n" : Str) (rowsL ink (("p" : Str) ++ nm) (("q" : Str) ++ nm) p0 p1)).length ≤ 300 := by
  have h := sjoin_len ("\n" : Str) (rowsL ink (("p" : Str) ++ nm) (("q" : Str) ++ nm) p0 p1)
  have h2 := rows_sum hi hn h0 h1
  have l_n : (("\n" : Str)).length = 1 := by decide +kernel
  have l_r : (rowsL ink (("p" : Str) ++ nm) (("q" : Str) ++ nm) p0 p1).length = 14 := rfl
  rw [TL.join_eq]
  rw [l_n, l_r] at h
  omega
end
theorem nm_str {z : Str} (h : IsNm z) : PyData.strOk (("p" : Str) ++ z) = true ∧ PyData.strOk (("q" : Str) ++ z) = true :=
  Bool.and_eq_true_iff.mp (nm_all (p := fun z => PyData.strOk (("p" : Str) ++ z) && PyData.strOk (("q" : Str) ++ z)) (by decide +kernel) h)
theorem item_RK {ink bl rd : Str} {n0 n1 : Int} {q1 q6 q7 q13 : Addr} : ∀ (l : Int) (v : Str), itemM (RK ink bl rd n0 n1 q1 q6 q7 q13) ink l = some v → v ≠ ("?" : Str) → (look [(bl, n0), (rd, n1)] v).isSome = true := fun l v h _ => by
  have hl : ∀ y, look [((6 : Int), (q6, [(ink, bl)])), (13, (q13, [(ink, rd)]))] l = some y → look y.2 ink = some v → v = bl ∨ v = rd := fun y hy hv => by
    have hm := look_mem hy
    rcases List.mem_cons.mp hm with e | e
    · cases e
      rw [look_1] at hv
      cases hv
      exact .inl rfl
    · cases List.mem_singleton.mp e
      rw [look_1] at hv
      cases hv
      exact .inr rfl
  obtain ⟨y, hy, hv⟩ := Option.bind_eq_some_iff.mp h
  unfold look
  by_cases e : bl = v
  · rw [if_pos e]
    rfl
  · rw [if_neg e]
    rcases hl y hy hv with q | q
    · exact absurd q.symm e
    · unfold look
      rw [if_pos q.symm]
      rfl
theorem neV (v : V) : (!decide (v = v)) = false := by rw [decide_eq_true rfl]; rfl
theorem neI (l : List Int) : (!decide (l = l)) = false := by rw [decide_eq_true rfl]; rfl
theorem neT (l : List Str) : (!decide (l = l)) = false := by rw [decide_eq_true rfl]; rfl
theorem scalO : ∀ o : Option Str, scal (optV o) (optV o) = true
  | none => rfl
  | some _ => rfl
/-! keywords: in the parameters' order -/
def sw0 {α : Type} : List α → List α → List α
  | [], [m] => [m]
  | _, _ => []
def sw1 {α : Type} : List α → List α → List α
  | [a], [m] => [a, m]
  | _, _ => []
def sw2 {α : Type} : List α → List α → List α
  | [a], [i, m] => [a, m, i]
  | _, _ => []
section
variable {σ : L2.St} {H : Hp} {Q : VK} {C : Addr} {m : Str} {sp : Sp} {gV : List V → List V → List V} {E : XK} {ta : TE} {t tk : TA}
theorem x_metK (h : ta σ H fun x H1 => ∃ a dx fs, x = .ref a ∧ H1 a = some (.ins C dx fs) ∧ fs.lookup m = none ∧ tk σ H1 fun zs H2 => sp (gV [.ref a] zs) H2 Q E) : tMethK C m sp gV E ta tk σ H Q := h
theorem x_met (h : ta σ H fun x H1 => ∃ a dx fs, x = .ref a ∧ H1 a = some (.ins C dx fs) ∧ fs.lookup m = none ∧ t σ H1 fun vs H2 => sp (x :: (vs ++ [])) H2 Q E) : tMeth C m sp [] E ta t σ H Q := h
theorem x_makK {n k : Nat} (h : t σ H fun vs H1 => tk σ H1 fun zs H2 => vs.length = n ∧ zs.length = k ∧ ∀ x dx, H2 x = none → H2 dx = none → dx ≠ x → sp (gV (.ref x :: vs) zs) (upd (upd H2 dx (.own x)) x (.ins C dx [])) (fun v H3 => v = .non ∧ Q (.ref x) H3) E) : tMakeK C n k sp gV E t tk σ H Q := h
theorem x_sta (h : ta σ H fun x H1 => x = .ref C ∧ tk σ H1 fun zs H2 => sp (gV [] zs) H2 Q E) : tStatK C sp gV E ta tk σ H Q := h
end
theorem x_gtup4 {K : PySem.W.Frag} {T : Addr} {x y z u : V} {i j k l : Nat} {σ : L2.St} {H : Hp} {Q : L2.St → Hp → Prop} (h : H T = some (.tup [x, y, z, u])) (q : Q ((((σ.set i (some x)).set j (some y)).set k (some z)).set l (some u)) H) : gTup K 4 (gCons (gName i) (gCons (gName j) (gCons (gName k) (gCons (gName l) gNil)))) (.ref T) σ H Q :=
  ⟨T, [x, y, z, u], rfl, SqT.of h, rfl, x, [y, z, u], rfl, y, [z, u], rfl, z, [u], rfl, u, [], rfl, rfl, q⟩
theorem same_make {H H' : Hp} {y dy C : Addr} {fs : List (Str × V)} (ny : H y = none) (ndy : H dy = none) (hd : dy ≠ y) (fr : ∀ b u, upd (upd H dy (.own y)) y (.ins C dy fs) b = some u → b ≠ y → H' b = some u) : Same H H' := fun b u e => by
  have h1 := ne_of_none e ny
  refine fr b u ?_ h1
  rw [upd_ne h1, upd_ne (ne_of_none e ndy)]
  exact e
theorem same_mk {H : Hp} {y dy C : Addr} {fs : List (Str × V)} (ny : H y = none) (ndy : H dy = none) (hd : dy ≠ y) : Same H (upd (upd H dy (.own y)) y (.ins C dy fs)) := (same_upd ndy).trans (same_upd (by rw [upd_ne (Ne.symm hd)]; exact ny))
end MP
end
section
open PySem L2 MPX MP
local macro_rules | `(tactic| walk_at "rd1") => `(tactic| first
  | with_reducible refine x_seq ?_
  | with_reducible refine x_next ?_
  | with_reducible refine x_ret ?_
  | with_reducible refine x_retN ?_
  | with_reducible refine x_ifs ?_
  | with_reducible refine x_asg ?_
  | with_reducible refine x_drop ?_
  | with_reducible refine x_name ?_
  | ((with_reducible refine' x_var ?vv ?_); (case vv => exact rfl))
  | with_reducible refine x_c ?_
  | with_reducible refine x_op ?_
  | with_reducible refine x_un ?_
  | with_reducible refine x_test ?_
  | with_reducible refine x_tB ?_
  | with_reducible refine x_and ?_
  | with_reducible refine x_or ?_
  | with_reducible refine x_not ?_
  | with_reducible refine x_andV ?_
  | with_reducible refine x_orV ?_
  | with_reducible refine x_notV ?_
  | with_reducible refine x_if ?_
  | with_reducible refine x_nil ?_
  | with_reducible refine x_cons ?_
  | with_reducible refine x_tup ?_
  | with_reducible refine x_lst ?_
  | with_reducible refine x_cb ?_
  | with_reducible refine x_call ?_
  | with_reducible refine x_callS ?_
  | with_reducible refine x_callP ?_
  | with_reducible refine x_mk0 ?_
  | with_reducible refine x_mk1 ?_
  | with_reducible refine x_mk2 ?_
  | with_reducible refine x_make ?_
  | with_reducible refine x_sfld ?_
  | with_reducible refine x_din ?_
  | with_reducible refine x_dnin ?_
  | with_reducible refine x_fldS ?_
  | with_reducible refine x_sl3 ?_
  | ((with_reducible refine' r_pg ?vr ?vt ?vm ?vl ?vq); (case vr => (with_reducible assumption)); (case vt => assumption); (case vm => decide +kernel); (case vl => exact rfl))
  | ((with_reducible refine' r_rn ?vr ?vt ?vm ?vl ?vq); (case vr => (with_reducible assumption)); (case vt => assumption); (case vm => decide +kernel); (case vl => exact rfl))
  | with_reducible refine x_m0 ?_
  | with_reducible refine x_m1 ?_
  | with_reducible refine x_bm0 ?_
  | with_reducible refine x_bm ?_
  | with_reducible refine x_par ?_
  | with_reducible refine x_ilist ?_
  | with_reducible refine x_itup ?_
  | with_reducible refine x_istr ?_
  | ((with_reducible show tLc _ _ _ _ _ _ _ _); unfold tLc)
  | ((with_reducible show tFor _ _ _ _ _ _); unfold tFor)
  | ((with_reducible refine' x_eq ?vv ?_); (case vv => exact rfl))
  | ((with_reducible refine' x_ne ?vv ?_); (case vv => exact rfl))
  | with_reducible refine x_rI0 ?_
  | with_reducible refine x_dgetR ?_
  | with_reducible refine x_dputR ?_
  | with_reducible refine x_dnew ?_
  | with_reducible refine x_dget1 ?_
  | with_reducible refine x_dget2 ?_
  | with_reducible refine x_sl ?_
  | with_reducible refine x_nopart ?_
  | with_reducible refine x_part ?_
  | ((with_reducible refine' x_slL ?vv ?_); (case vv => (with_reducible assumption)))
  | with_reducible refine x_disp ?_
  | with_reducible refine x_pcons ?_
  | with_reducible refine x_pnil ?_
  | ((with_reducible refine' x_mod ?vv ?_); (case vv => omega); intro r er hr0 hr1; (try clear er))
  | ((with_reducible refine' x_rI ?vv ?_); (case vv => walk_at "sc"))
  | (with_reducible refine Or.inl (Exists.intro _ (And.intro rfl ?_)))
  | with_reducible refine x_T ?_
  | with_reducible refine x_F ?_
  | ((with_reducible show Exists (α := V) _); (with_reducible apply Exists.intro))
  | ((with_reducible show Exists (α := Bool) _); (with_reducible apply Exists.intro))
  | ((with_reducible show Exists (α := Nat) _); (with_reducible apply Exists.intro))
  | ((with_reducible show Exists (α := Int) _); (with_reducible apply Exists.intro))
  | ((with_reducible show Exists (α := List V) _); (with_reducible apply Exists.intro))
  | ((with_reducible show Exists (α := PySem.Str) _); (with_reducible apply Exists.intro))
  | ((with_reducible show Exists (α := Option V) _); (with_reducible apply Exists.intro))
  | ((with_reducible show Exists (α := Option Int) _); (with_reducible apply Exists.intro))
  | ((with_reducible show Exists (α := List (Key × V)) _); (with_reducible apply Exists.intro))
  | refine And.intro rfl ?_
  | ((with_reducible refine And.intro ?vv ?_); (case vv => (first | (with_reducible assumption) | (show _ ≤ sizeLine; decide) | exact len_ok rfl)))
  | (refine And.intro (Exists.intro _ rfl) ?_))
local macro_rules | `(tactic| walk_at "sc") => `(tactic| first
  | (with_reducible assumption)
  | exact divW (by omega) (by omega)
  | exact mulW (by omega) (by omega)
  | exact Or.inl ⟨by omega, by omega⟩
  | exact Or.inr ⟨by omega, by omega⟩
  | (show (_ : Int) ≠ 0; omega)
  | exact ⟨by decide, by decide, by decide⟩
  | decide)
local macro_rules | `(tactic| walk_at "rd") => `(tactic| repeat walk_at "rd1")
namespace MP
open PySem L2 StX
section
variable {P : Program} {w : World} {K : PySem.W.Frag} {mg : Str → Option Value} {base : Heap} {ts : Nat → Tok} {CP CM CN CR CO CB CT : Addr}
abbrev s_law : Stmt := topS 64
abbrev N_law : List Str := ["_law_script", "_law_pen_here", "_law_rows_here", "_law_walk", "_law_ink", "_law_black", "_law_made", "_law_one", "_law_two", "_law_k"]
abbrev P_law : List Str := ["_law_script"]
theorem sc_law : FnScope N_law P_law (defScope s_law) := ⟨rfl, rfl, rfl, by decide +kernel, rfl, by decide +kernel, by decide +kernel⟩
structure LawT (P : Program) (w : World) (K : PySem.W.Frag) (mg : Str → Option Value) (base : Heap) (CP CM CN CR CO CB CT : Addr) : Prop where
  pg : PrgTxt K CP
  rn : RunCls K CR
  b_len : mg "len" = none
  b_range : mg "range" = none
  b_list : mg "list" = none
  b_tuple : mg "tuple" = none
  g_Run : mg "Run" = some (.ref CR)
  c__law_pen : Cal P w K mg base 1 "_law_pen" (sp_pen K)
  c__law_rows : Cal P w K mg base 3 "_law_rows" sp_rows
  k_Program : MakK P w K mg base 8 "Program" CP ["text"] (sp_pinit CP CB CT) sw1
  c_Program : CalM P w K mg base 8 "Program" CP (sp_pinit CP CB CT)
  k_Run : MakK P w K mg base 4 "Run" CR ["lines", "program"] (sp_rinit K CP CN CR) sw2
  c_Run : CalM P w K mg base 4 "Run" CR (sp_rinit K CP CN CR)
  c_eq_Run : EqC P w K mg base 3 CR (SameRn K CP CR)
  c_eq_Program : EqC P w K mg base 1 CP (SameTx CP)
  k_Run_last : MetK P w K mg base 4 CR "last" ["index", "mode"] (sp_last K CP CM CR) sw2
  c_Run_last : MetC P w K mg base 4 CR "last" (sp_last K CP CM CR)
  k_Run_next : MetK P w K mg base 4 CR "next" ["index", "mode"] (sp_next K CP CM CR) sw2
  c_Run_next : MetC P w K mg base 4 CR "next" (sp_next K CP CM CR)
  k_Program_item : MetK P w K mg base 4 CP "item" ["line", "mode"] (sp_item CP CM) sw2
  c_Program_item : MetC P w K mg base 4 CP "item" (sp_item CP CM)
  k_Run_need : MetK P w K mg base 4 CR "need" ["mode"] (sp_need K CP CM CR) sw1
  c_Run_need : MetC P w K mg base 4 CR "need" (sp_need K CP CM CR)
  k_Program_choices : MetK P w K mg base 5 CP "choices" ["mode"] (sp_choices CP CM) sw1
  c_Program_choices : MetC P w K mg base 5 CP "choices" (sp_choices CP CM)
  k_Program_price : MetK P w K mg base 5 CP "price" ["value", "mode"] (sp_price CP CM) sw2
  c_Program_price : MetC P w K mg base 5 CP "price" (sp_price CP CM)
  k_Program_begin : MetK P w K mg base 4 CP "begin" ["mode"] (sp_begin CP CM) sw1
  c_Program_begin : MetC P w K mg base 4 CP "begin" (sp_begin CP CM)
  s_Run_shortest : StaK P w K mg base 6 CR "shortest" ["program"] (sp_shortest K CP CR) sw0
  c_len_Run : LenC P w K mg base 1 CR (sp_len K CR)
theorem end_RK {ink bl rd : Str} {n0 n1 : Int} {q1 q6 q7 q13 : Addr} : endOk (RK ink bl rd n0 n1 q1 q6 q7 q13) := ⟨rfl, rfl, fun x hx => by rw [List.mem_singleton.mp hx]; rfl⟩
theorem fir_RK {ink bl rd : Str} {n0 n1 : Int} {q1 q6 q7 q13 : Addr} : ∀ y ∈ (RK ink bl rd n0 n1 q1 q6 q7 q13).routines, (look (behM (RK ink bl rd n0 n1 q1 q6 q7 q13)) y.2).isSome = true := fun y hy => by
  rw [be_RK]
  rcases List.mem_cons.mp hy with rfl | hy
  · rfl
  · rw [List.mem_singleton.mp hy]
    rfl
/-- making a program of the law's text -/
theorem pinit_RK {ink nm p0 p1 : Str} {H : Hp} {Q : VK} {x dx : Addr} (i1 : IsNm ink) (i2 : IsNm nm) (i3 : IsPr p0) (i4 : IsPr p1) (hx : H x = some (.ins CP dx []))
    (k : ∀ q1 q6 q7 q13 ad mo pr bh fh H', (∀ b o, H b = some o → b ≠ x → H' b = some o) → ProgAt CP H' x ad mo pr bh fh (RK ink (("p" : Str) ++ nm) (("q" : Str) ++ nm) (priceOf p0) (priceOf p1) q1 q6 q7 q13) (Txt.join ("\n" : Str) (rowsL ink (("p" : Str) ++ nm) (("q" : Str) ++ nm) p0 p1)) beK fiK →
      H' (ad 4) = some (.dK (kI V.str (RK ink (("p" : Str) ++ nm) (("q" : Str) ++ nm) (priceOf p0) (priceOf p1) q1 q6 q7 q13).owners)) → Q .non H') :
    sp_pinit CP CB CT [.ref x, .str (Txt.join ("\n" : Str) (rowsL ink (("p" : Str) ++ nm) (("q" : Str) ++ nm) p0 p1))] H Q E0 := by
  have hl := text_len i1 i2 i3 i4
  have hsz : sizeLine = 16777216 := sizeLine_eq
  have hlr : (PySem.Txt.split (Txt.join ("\n" : Str) (rowsL ink (("p" : Str) ++ nm) (("q" : Str) ++ nm) p0 p1)) "\n").length = 14 := by rw [text_split i1 i2 i3 i4]; rfl
  refine ⟨x, dx, _, rfl, hx, by omega, fun h => by omega, fun _ h => by omega, fun _ _ => ?_⟩
  rw [hlr]
  rw [text_split i1 i2 i3 i4]
  refine parse_RK i1 i2 i3 i4 fun q1 q6 q7 q13 => ⟨fun _ => ⟨fir_RK, fun _ _ ad mo pr bh fh H' fr pa ho => ?_⟩, fun h => absurd end_RK h⟩
  rw [be_RK, fi_RK] at pa
  exact k q1 q6 q7 q13 ad mo pr bh fh H' fr pa ho
theorem sm2_RK {ink bl rd : Str} {n0 n1 : Int} {q1 q6 q7 q13 : Addr} : Sm2 (RK ink bl rd n0 n1 q1 q6 q7 q13) := ⟨fun x hx => by rw [List.mem_singleton.mp hx]; show 2 < 1000; decide, fun x hx => by rw [List.mem_singleton.mp hx]; show 1 < 1000; decide⟩
def sp_law (K : PySem.W.Frag) : Sp := fun vs H Q _ => ∃ (a : Addr) (ns : List Int), vs = [.ref a] ∧ SqL K H a (ns.map V.int) ∧ ns.length ≤ 63 ∧ ∀ H', Q (.bl true) H'
theorem ok_law {f : Addr} {fd : FuncData} (F : Fun K "law" "law" s_law f fd) (T : LawT P w K mg base CP CM CN CR CO CB CT) : FnOk P w K mg base CX0 10 f fd P_law (sp_law K) := by
  refine F.ok sc_law (fun vs H Q E h => ?_) (fun cdv A outer s H vs Q E hr h => ?_)
  · obtain ⟨a, ns, rfl, _⟩ := h
    rfl
  · obtain ⟨a, ns, rfl, hs, hl, k⟩ := h
    have hu := hu_of hr
    have Tr := T.pg
    have Tn := T.rn
    obtain ⟨pg, rn, b_len, b_range, b_list, b_tuple, g_Run, c__law_pen, c__law_rows, k_Program, c_Program, k_Run, c_Run, c_eq_Run, c_eq_Program, k_Run_last, c_Run_last, k_Run_next, c_Run_next, k_Program_item, c_Program_item, k_Run_need, c_Run_need, k_Program_choices, c_Program_choices, k_Program_price, c_Program_price, k_Program_begin, c_Program_begin, s_Run_shortest, c_len_Run⟩ := id T
    refine ⟨_, (pss_cons (ps_set (i := 1) sc_law.nd rfl (Or.inl rfl) (pe_cc c__law_pen hr (by decide) rfl (pa_cons (pv 0) pa_nil)))
      (pss_cons (ps_asg (pe_cc c__law_rows hr (by decide) rfl (pa_cons (pv 1) pa_nil)) (pg_tup rfl (pgs_cons (pg_name (i := 2) sc_law.nd rfl (Or.inl rfl)) (pgs_cons (pg_name (i := 3) sc_law.nd rfl (Or.inl rfl)) (pgs_cons (pg_name (i := 4) sc_law.nd rfl (Or.inl rfl)) (pgs_cons (pg_name (i := 5) sc_law.nd rfl (Or.inl rfl)) pgs_nil))))))
      (pss_cons (ps_set (i := 6) sc_law.nd rfl (Or.inl rfl) (pe_cmm k_Program hr (by decide) rfl (pk_cons (pe_join pe_str (pv 2)) pk_nil)))
      (pss_cons (ps_par (i := 7) (j := 8) (by rfl) sc_law.nd rfl rfl (by decide) rfl rfl (pa_cons (pe_cmm k_Run hr (by decide) rfl (pk_cons (pe_callTy call_list_of (by rfl) T.b_list (by decide +kernel) (pa_cons (pv 3) pa_nil)) (pk_cons (pv 6) pk_nil))) (pa_cons (pe_cm c_Run hr (by decide) rfl (pa_cons (pv 6) (pa_cons (pe_callTy (call_tuple_K (rfl : _ = K)) (by rfl) T.b_tuple (by decide +kernel) (pa_cons (pv 3) pa_nil)) pa_nil))) pa_nil)) (by rfl))
      (pss_cons (ps_if (PW.pt (pw_or (pt_not (pt_cmpR (op_eqC c_eq_Run hr (by decide)) (pv 7) (pv 8) (nomark _))) (pw_or (pt_not (pt_cmpR (op_eqC c_eq_Program hr (by decide)) (pv 6) (pe_cm c_Program hr (by decide) rfl (pa_cons (pe_join pe_str (pv 2)) pa_nil)) (nomark _))) (pw_or1 (pt_cmpR (op_neD hr.units) (pe_fld (pv 7) rfl) (pe_callTy (call_tuple_K (rfl : _ = K)) (by rfl) T.b_tuple (by decide +kernel) (pa_cons (pv 3) pa_nil)) (nomark _)))))) (pss_one (ps_ret pe_bl)) pss_nil)
      (pss_cons (ps_for PassesOwn.never rfl (pi_range1 rfl T.b_range (pa_cons (pe_callB call_len_seq (by rfl) T.b_len (by decide +kernel) (pa_cons (pv 3) pa_nil)) pa_nil)) (pg_name (i := 9) sc_law.nd rfl (Or.inl rfl))
      (pss_cons (ps_if (pt_cmpR op_ne (pe_cmk k_Run_last hr (by decide) (pv 7) (pk_cons (pv 9) (pk_cons (pv 4) pk_nil))) (pe_cme c_Run_last hr (by decide) (pv 8) (pa_cons (pv 4) (pa_cons (pv 9) pa_nil))) (nomark _)) (pss_one (ps_ret pe_bl)) pss_nil)
      (pss_cons (ps_if (pt_cmpR op_ne (pe_cmk k_Run_next hr (by decide) (pv 7) (pk_cons (pv 9) (pk_cons (pv 4) pk_nil))) (pe_cme c_Run_next hr (by decide) (pv 8) (pa_cons (pv 4) (pa_cons (pv 9) pa_nil))) (nomark _)) (pss_one (ps_ret pe_bl)) pss_nil)
      (pss_one (ps_if (pt_cmpR op_ne (pe_cmk k_Program_item hr (by decide) (pv 6) (pk_cons (pe_ix ix_list (pv 3) (pv 9) (fun _ _ => rfl)) (pk_cons (pv 4) pk_nil))) (pe_cme c_Program_item hr (by decide) (pv 6) (pa_cons (pv 4) (pa_cons (pe_ix ix_list (pv 3) (pv 9) (fun _ _ => rfl)) pa_nil))) (nomark _)) (pss_one (ps_ret pe_bl)) pss_nil)))))
      (pss_cons (ps_if (PW.pt (pw_or (pt_cmpR op_ne (pe_cmk k_Run_need hr (by decide) (pv 7) (pk_cons (pv 4) pk_nil)) (pe_cme c_Run_need hr (by decide) (pv 8) (pa_cons (pv 4) pa_nil)) (nomark _)) (pw_or1 (pt_cmpR (op_neD hr.units) (pe_cmk k_Program_choices hr (by decide) (pv 6) (pk_cons (pv 4) pk_nil)) (pe_cme c_Program_choices hr (by decide) (pv 6) (pa_cons (pv 4) pa_nil)) (nomark _))))) (pss_one (ps_ret pe_bl)) pss_nil)
      (pss_cons (ps_if (pt_cmpR op_ne (pe_cmk k_Program_price hr (by decide) (pv 6) (pk_cons (pv 5) (pk_cons (pv 4) pk_nil))) (pe_cme c_Program_price hr (by decide) (pv 6) (pa_cons (pv 4) (pa_cons (pv 5) pa_nil))) (nomark _)) (pss_one (ps_ret pe_bl)) pss_nil)
      (pss_one (ps_ret (pe_and (pe_cmpR op_eq (pe_cmk k_Program_begin hr (by decide) (pv 6) (pk_cons (pv 4) pk_nil)) (pe_cme c_Program_begin hr (by decide) (pv 6) (pa_cons (pv 4) pa_nil)) (nomark _)) (pe_one (pe_cmpR op_eq (pe_callB (call_lenC c_len_Run hr (by decide)) (by rfl) T.b_len (by decide +kernel) (pa_cons (pe_cst s_Run_shortest hr (by decide) (pe_glob (v := V.ref CR) rfl T.g_Run rfl) (pk_cons (pv 6) pk_nil)) pa_nil)) pe_int (nomark _)))))))))))))), ?_⟩
    show tSeq _ _ _ [some (V.ref a), none, none, none, none, none, none, none, none, none] H
    walk_at "rd"
    refine ⟨a, ns, rfl, hs, hl, fun d H1 s1 nd pn1 => ?_⟩
    walk_at "rd"
    refine ⟨d, ns, 0, rfl, pn1, by omega, fun t la wa H2 ink nm p0 p1 bs i1 i2 i3 i4 hb et ela ewa => ?_⟩
    refine x_gtup4 et ?_
    have big : sizeLine = 16777216 := sizeLine_eq
    have hsum := rows_sum i1 i2 i3 i4
    have l_n : (("\n" : Str)).length = 1 := by decide +kernel
    have l_r : (rowsL ink (("p" : Str) ++ nm) (("q" : Str) ++ nm) p0 p1).length = 14 := rfl
    have hwl := way_len bs
    clear et s1 pn1
    walk_at "rd"
    refine ⟨_, rfl, rfl, Or.inl (SqL.of ela), by rw [l_n, l_r]; omega, ?_⟩
    walk_at "rd"
    intro x dx nx ndx hxd
    refine pinit_RK i1 i2 i3 i4 upd_same fun q1 q6 q7 q13 ad mo pr bh fh H3 fr pa ho => ⟨rfl, ?_⟩
    have s3 := same_make nx ndx hxd fr
    replace ela := s3 _ _ ela
    replace ewa := s3 _ _ ewa
    clear fr nx ndx hxd s3
    have hway := way_RK (ink := ink) (bl := ("p" : Str) ++ nm) (rd := ("q" : Str) ++ nm) (n0 := priceOf p0) (n1 := priceOf p1) (q1 := q1) (q6 := q6) (q7 := q7) (q13 := q13) bs
    have hwc := wcomp_RK (ink := ink) (bl := ("p" : Str) ++ nm) (rd := ("q" : Str) ++ nm) (n0 := priceOf p0) (n1 := priceOf p1) (q1 := q1) (q6 := q6) (q7 := q7) (q13 := q13) bs
    have hsm := sm2_RK (ink := ink) (bl := ("p" : Str) ++ nm) (rd := ("q" : Str) ++ nm) (n0 := priceOf p0) (n1 := priceOf p1) (q1 := q1) (q6 := q6) (q7 := q7) (q13 := q13)
    have htabs := tabs_RK (ink := ink) (bl := ("p" : Str) ++ nm) (rd := ("q" : Str) ++ nm) (n0 := priceOf p0) (n1 := priceOf p1) (q1 := q1) (q6 := q6) (q7 := q7) (q13 := q13)
    have hlines := lines_RK (ink := ink) (bl := ("p" : Str) ++ nm) (rd := ("q" : Str) ++ nm) (n0 := priceOf p0) (n1 := priceOf p1) (q1 := q1) (q6 := q6) (q7 := q7) (q13 := q13)
    have hshort := short_RK (ink := ink) (bl := ("p" : Str) ++ nm) (rd := ("q" : Str) ++ nm) (n0 := priceOf p0) (n1 := priceOf p1) (q1 := q1) (q6 := q6) (q7 := q7) (q13 := q13)
    have hcomp := comp_RK (ink := ink) (bl := ("p" : Str) ++ nm) (rd := ("q" : Str) ++ nm) (n0 := priceOf p0) (n1 := priceOf p1) (q1 := q1) (q6 := q6) (q7 := q7) (q13 := q13)
    have hitm := item_RK (ink := ink) (bl := ("p" : Str) ++ nm) (rd := ("q" : Str) ++ nm) (n0 := priceOf p0) (n1 := priceOf p1) (q1 := q1) (q6 := q6) (q7 := q7) (q13 := q13)
    have hmd : look (RK ink (("p" : Str) ++ nm) (("q" : Str) ++ nm) (priceOf p0) (priceOf p1) q1 q6 q7 q13).modes ink = some (q1, [(("p" : Str) ++ nm, priceOf p0), (("q" : Str) ++ nm, priceOf p1)]) := if_pos rfl
    have hbg : look (RK ink (("p" : Str) ++ nm) (("q" : Str) ++ nm) (priceOf p0) (priceOf p1) q1 q6 q7 q13).begins ink = some (("q" : Str) ++ nm) := if_pos rfl
    have hmem : ink ∈ (RK ink (("p" : Str) ++ nm) (("q" : Str) ++ nm) (priceOf p0) (priceOf p1) q1 q6 q7 q13).modes.map (·.1) := List.mem_cons_self
    have hown : 6 * (RK ink (("p" : Str) ++ nm) (("q" : Str) ++ nm) (priceOf p0) (priceOf p1) q1 q6 q7 q13).owners.length < 90000 := by show 6 * 10 < 90000; decide
    generalize RK ink (("p" : Str) ++ nm) (("q" : Str) ++ nm) (priceOf p0) (priceOf p1) q1 q6 q7 q13 = R at pa ho hway hwc hsm htabs hlines hshort hcomp hitm hmd hbg hmem hown
    have hlen : (wayL bs ++ [11]).length < 40 := by rw [List.length_append, List.length_singleton]; omega
    generalize wayL bs ++ [11] = ls at ewa hway hwc hlen ⊢
    walk_at "rd"
    refine x_makK ?_
    walk_at "rd"
    refine ⟨Or.inl (SqL.of ewa), fun l nl => ?_⟩
    have sl := same_upd (o := .lst (ls.map V.int)) nl
    have el : upd H3 l (.lst (ls.map V.int)) l = _ := upd_same
    replace pa := pa.same sl
    replace ho := sl _ _ ho
    replace ela := sl _ _ ela
    replace ewa := sl _ _ ewa
    generalize upd H3 l _ = H4 at el pa ho ela ewa ⊢
    clear sl nl
    walk_at "rd"
    intro y1 dy1 ny1 ndy1 hyd1
    have sm := same_mk (C := CR) (fs := []) ny1 ndy1 hyd1
    refine ⟨y1, dy1, x, ad, mo, pr, bh, fh, R, _, beK, fiK, l, ls, .inr [], true, rfl, upd_same, pa.same sm, Or.inl (SqL.of (sm _ _ el)), by omega, hsm, hway, fun op e => (by cases e; exact hwc), fun i e => (by cases e), fun op t1 o1 H5 e fr r1 => ?_⟩
    cases e
    refine ⟨rfl, ?_⟩
    have s5 := same_make ny1 ndy1 hyd1 fr
    replace pa := pa.same s5
    replace ho := s5 _ _ ho
    replace ela := s5 _ _ ela
    replace ewa := s5 _ _ ewa
    clear sm s5 fr ny1 ndy1 hyd1 el
    walk_at "rd"
    refine x_tupA (Or.inl (SqL.of ewa)) fun t2 H6 s6 e6 => ?_
    replace pa := pa.same s6
    replace r1 := r1.same s6
    replace ho := s6 _ _ ho
    replace ela := s6 _ _ ela
    replace ewa := s6 _ _ ewa
    clear s6
    walk_at "rd"
    intro y2 dy2 ny2 ndy2 hyd2
    have sm := same_mk (C := CR) (fs := []) ny2 ndy2 hyd2
    refine ⟨y2, dy2, x, ad, mo, pr, bh, fh, R, _, beK, fiK, t2, ls, .inr [], true, rfl, upd_same, pa.same sm, Or.inr (e6.ext sm), by omega, hsm, hway, fun op e => (by cases e; exact hwc), fun i e => (by cases e), fun op t3 o2 H7 e fr r2 => ?_⟩
    cases e
    refine ⟨rfl, ?_⟩
    have s7 := same_make ny2 ndy2 hyd2 fr
    replace pa := pa.same s7
    replace r1 := r1.same s7
    replace ho := s7 _ _ ho
    replace ela := s7 _ _ ela
    replace ewa := s7 _ _ ewa
    clear sm s7 fr ny2 ndy2 hyd2 e6
    walk_at "rd"
    have tx : ∃ dx fs, H7 x = some (.ins CP dx fs) ∧ fs.lookup ("text" : Str) = some (.str (Txt.join ("\n" : Str) (rowsL ink (("p" : Str) ++ nm) (("q" : Str) ++ nm) p0 p1))) := let ⟨dx, e⟩ := pa.ob; ⟨dx, _, e, rfl⟩
    obtain ⟨da, ea⟩ := r1.ob
    obtain ⟨db, eb⟩ := r2.ob
    refine ⟨⟨y1, y2, da, db, _, _, rfl, rfl, ea, eb, ls, x, t1, o1, x, t3, o2, [], [], true, true, r1, r2, _, tx, tx⟩, fun H8 s8 => ?_⟩
    replace s8 : Same H7 H8 := s8
    replace pa := pa.same s8
    replace r1 := r1.same s8
    replace r2 := r2.same s8
    replace ho := s8 _ _ ho
    replace ela := s8 _ _ ela
    replace ewa := s8 _ _ ewa
    clear s8 tx ea eb
    walk_at "rd"
    refine x_cF rfl ?_
    walk_at "rd"
    refine ⟨_, rfl, rfl, Or.inl (SqL.of ela), by rw [l_n, l_r]; omega, ?_⟩
    walk_at "rd"
    intro x2 dx2 nx ndx hxd
    refine pinit_RK i1 i2 i3 i4 upd_same fun q1b q6b q7b q13b adb mob prb bhb fhb H9 fr pb hob => ⟨rfl, ?_⟩
    have s9 := same_make nx ndx hxd fr
    replace pa := pa.same s9
    replace r1 := r1.same s9
    replace r2 := r2.same s9
    replace ho := s9 _ _ ho
    replace ewa := s9 _ _ ewa
    clear fr nx ndx hxd s9 ela hob
    walk_at "rd"
    have tx1 : ∃ dx fs, H9 x = some (.ins CP dx fs) ∧ fs.lookup ("text" : Str) = some (.str (Txt.join ("\n" : Str) (rowsL ink (("p" : Str) ++ nm) (("q" : Str) ++ nm) p0 p1))) := let ⟨dx, e⟩ := pa.ob; ⟨dx, _, e, rfl⟩
    have tx2 : ∃ dx fs, H9 x2 = some (.ins CP dx fs) ∧ fs.lookup ("text" : Str) = some (.str (Txt.join ("\n" : Str) (rowsL ink (("p" : Str) ++ nm) (("q" : Str) ++ nm) p0 p1))) := let ⟨dx, e⟩ := pb.ob; ⟨dx, _, e, rfl⟩
    obtain ⟨da, ea⟩ := pa.ob
    obtain ⟨db, eb⟩ := pb.ob
    refine ⟨⟨x, x2, da, db, _, _, rfl, rfl, ea, eb, _, tx1, tx2⟩, fun H10 s10 => ?_⟩
    replace s10 : Same H9 H10 := s10
    replace pa := pa.same s10
    replace r1 := r1.same s10
    replace r2 := r2.same s10
    replace ho := s10 _ _ ho
    replace ewa := s10 _ _ ewa
    clear s10 tx1 tx2 ea eb pb
    walk_at "rd"
    refine x_cF rfl ?_
    walk_at "rd"
    refine x_tupA (Or.inl (SqL.of ewa)) fun t4 H11 s11 e11 => ?_
    replace pa := pa.same s11
    replace r1 := r1.same s11
    replace r2 := r2.same s11
    replace ho := s11 _ _ ho
    replace ewa := s11 _ _ ewa
    refine x_neInts r1.hl e11 ?_
    rw [neI]
    clear s11 e11
    walk_at "rd"
    refine x_rg ?_
    walk_at "rd"
    refine ⟨Or.inl (SqL.of ewa), ?_⟩
    rw [List.length_map]
    walk_at "rd"
    refine ⟨by omega, by omega, for_range (n := (ls.length : Int).toNat) (fun i σ H' => Hold (∃ x9 : Option V, σ = [some (V.ref a), some (V.ref d), some (V.ref la), some (V.ref wa), some (V.str ink), some (V.str (("p" : Str) ++ nm)), some (V.ref x), some (V.ref y1), some (V.ref y2), x9] ∧ Same H11 H')) ⟨none, rfl, fun _ _ e => e⟩ ?_ ?_⟩
    · rintro i σ H12 hi ⟨x9, rfl, s12⟩
      replace hi : i < ls.length := by omega
      replace pa := pa.same s12
      replace r1 := r1.same s12
      replace r2 := r2.same s12
      replace ewa := s12 _ _ ewa
      obtain ⟨ln, hln⟩ : ∃ l, ls[i]? = some l := ⟨ls[i], List.getElem?_eq_getElem hi⟩
      have hat : atI (ls.map V.int) (i : Int) = some (V.int ln) := atI_nat (by rw [List.getElem?_map, hln]; rfl)
      rw [Int.zero_add]
      obtain ⟨de, ee⟩ := r1.ob
      walk_at "rd"
      refine x_metK ?_
      walk_at "rd"
      refine ⟨runF x t1 o1 true, rfl, ee, rfl, ?_⟩
      clear ee
      walk_at "rd"
      refine ⟨y1, x, t1, o1, ls, [], true, ad, mo, pr, bh, fh, R, _, beK, fiK, ink, i, rfl, r1, pa, by omega, fun _ H13 s13 => ?_, fun h => absurd hmem h⟩
      replace pa := pa.same s13
      replace r1 := r1.same s13
      replace r2 := r2.same s13
      replace ewa := s13 _ _ ewa
      replace s12 := s12.trans s13
      clear s13
      obtain ⟨de, ee⟩ := r2.ob
      refine x_met ?_
      walk_at "rd"
      refine ⟨runF x t3 o2 true, rfl, ee, rfl, ?_⟩
      clear ee
      walk_at "rd"
      refine ⟨y2, x, t3, o2, ls, [], true, ad, mo, pr, bh, fh, R, _, beK, fiK, ink, i, rfl, r2, pa, by omega, fun _ H13 s13 => ?_, fun h => absurd hmem h⟩
      replace pa := pa.same s13
      replace r1 := r1.same s13
      replace r2 := r2.same s13
      replace ewa := s13 _ _ ewa
      replace s12 := s12.trans s13
      clear s13
      walk_at "rd"
      refine x_cF (neV _) ?_
      obtain ⟨de, ee⟩ := r1.ob
      walk_at "rd"
      refine x_metK ?_
      walk_at "rd"
      refine ⟨runF x t1 o1 true, rfl, ee, rfl, ?_⟩
      clear ee
      walk_at "rd"
      refine ⟨y1, x, t1, o1, ls, [], true, ad, mo, pr, bh, fh, R, _, beK, fiK, ink, i, rfl, r1, pa, fun _ H13 s13 => ?_, fun h => absurd hmem h⟩
      replace pa := pa.same s13
      replace r1 := r1.same s13
      replace r2 := r2.same s13
      replace ewa := s13 _ _ ewa
      replace s12 := s12.trans s13
      clear s13
      obtain ⟨de, ee⟩ := r2.ob
      refine x_met ?_
      walk_at "rd"
      refine ⟨runF x t3 o2 true, rfl, ee, rfl, ?_⟩
      clear ee
      walk_at "rd"
      refine ⟨y2, x, t3, o2, ls, [], true, ad, mo, pr, bh, fh, R, _, beK, fiK, ink, i, rfl, r2, pa, fun _ H13 s13 => ?_, fun h => absurd hmem h⟩
      replace pa := pa.same s13
      replace r1 := r1.same s13
      replace r2 := r2.same s13
      replace ewa := s13 _ _ ewa
      replace s12 := s12.trans s13
      clear s13
      walk_at "rd"
      refine x_cF (neV _) ?_
      obtain ⟨de, ee⟩ := pa.ob
      walk_at "rd"
      refine x_metK ?_
      walk_at "rd"
      refine ⟨pflds ad _ mo pr bh fh, rfl, ee, rfl, ?_⟩
      clear ee
      walk_at "rd"
      refine x_ixL (SqL.of ewa) hat ?_
      walk_at "rd"
      refine ⟨x, ad, mo, pr, bh, fh, R, _, beK, fiK, ink, ln, rfl, pa, fun _ => ?_, fun h => absurd hmem h⟩
      obtain ⟨de, ee⟩ := pa.ob
      refine x_met ?_
      walk_at "rd"
      refine ⟨pflds ad _ mo pr bh fh, rfl, ee, rfl, ?_⟩
      clear ee
      walk_at "rd"
      refine x_ixL (SqL.of ewa) hat ?_
      walk_at "rd"
      refine ⟨x, ad, mo, pr, bh, fh, R, _, beK, fiK, ink, ln, rfl, pa, fun _ => ?_, fun h => absurd hmem h⟩
      refine x_ne (scalO _) ?_
      rw [neV]
      walk_at "rd"
      exact ⟨_, rfl, s12⟩
    · rintro σ H12 ⟨x9, rfl, s12⟩
      replace pa := pa.same s12
      replace r1 := r1.same s12
      replace r2 := r2.same s12
      replace ho := s12 _ _ ho
      clear s12 ewa
      obtain ⟨de, ee⟩ := r1.ob
      walk_at "rd"
      refine x_metK ?_
      walk_at "rd"
      refine ⟨runF x t1 o1 true, rfl, ee, rfl, ?_⟩
      clear ee
      walk_at "rd"
      refine ⟨y1, x, t1, o1, ls, [], true, ad, mo, pr, bh, fh, R, _, beK, fiK, ink, rfl, r1, pa, fun wt hwt => ⟨by rw [hmd] at hwt; cases hwt; exact hitm, ?_⟩, fun h => absurd hmem h⟩
      rw [hmd] at hwt
      cases hwt
      obtain ⟨de, ee⟩ := r2.ob
      refine x_met ?_
      walk_at "rd"
      refine ⟨runF x t3 o2 true, rfl, ee, rfl, ?_⟩
      clear ee
      walk_at "rd"
      refine ⟨y2, x, t3, o2, ls, [], true, ad, mo, pr, bh, fh, R, _, beK, fiK, ink, rfl, r2, pa, fun wt hwt => ⟨by rw [hmd] at hwt; cases hwt; exact hitm, ?_⟩, fun h => absurd hmem h⟩
      rw [hmd] at hwt
      cases hwt
      walk_at "rd"
      refine x_cF (neV _) ?_
      obtain ⟨de, ee⟩ := pa.ob
      walk_at "rd"
      refine x_metK ?_
      walk_at "rd"
      refine ⟨pflds ad _ mo pr bh fh, rfl, ee, rfl, ?_⟩
      clear ee
      walk_at "rd"
      refine ⟨x, ad, mo, pr, bh, fh, R, _, beK, fiK, ink, _, rfl, pa, hmd, by show 2 < 1000; decide, fun t13 H13 s13 e13 => ?_⟩
      replace pa := pa.same s13
      replace r1 := r1.same s13
      replace r2 := r2.same s13
      replace ho := s13 _ _ ho
      clear s13
      obtain ⟨de, ee⟩ := pa.ob
      refine x_met ?_
      walk_at "rd"
      refine ⟨pflds ad _ mo pr bh fh, rfl, ee, rfl, ?_⟩
      clear ee
      walk_at "rd"
      refine ⟨x, ad, mo, pr, bh, fh, R, _, beK, fiK, ink, _, rfl, pa, hmd, by show 2 < 1000; decide, fun t14 H14 s14 e14 => ?_⟩
      replace pa := pa.same s14
      replace r1 := r1.same s14
      replace r2 := r2.same s14
      replace ho := s14 _ _ ho
      replace e13 := s14 _ _ e13
      clear s14
      have hso : ∀ z ∈ ([(("p" : Str) ++ nm, priceOf p0), (("q" : Str) ++ nm, priceOf p1)].map (·.1)), PyData.strOk z = true := fun z hz => by
        have h := nm_str i2
        rcases List.mem_cons.mp hz with e | e
        · rw [e]; exact h.1
        · rw [List.mem_singleton.mp e]; exact h.2
      refine x_neStrs hso hso (SqT.of e13) (SqT.of e14) ?_
      rw [neT]
      obtain ⟨de, ee⟩ := pa.ob
      walk_at "rd"
      refine x_metK ?_
      walk_at "rd"
      refine ⟨pflds ad _ mo pr bh fh, rfl, ee, rfl, ?_⟩
      clear ee
      walk_at "rd"
      refine ⟨x, ad, mo, pr, bh, fh, R, _, beK, fiK, ink, ("p" : Str) ++ nm, rfl, pa, fun yt hyt => ⟨priceOf p0, by rw [hmd] at hyt; cases hyt; exact if_pos rfl, ?_⟩, fun h => absurd hmem h⟩
      clear hyt
      obtain ⟨de, ee⟩ := pa.ob
      refine x_met ?_
      walk_at "rd"
      refine ⟨pflds ad _ mo pr bh fh, rfl, ee, rfl, ?_⟩
      clear ee
      walk_at "rd"
      refine ⟨x, ad, mo, pr, bh, fh, R, _, beK, fiK, ink, ("p" : Str) ++ nm, rfl, pa, fun yt hyt => ⟨priceOf p0, by rw [hmd] at hyt; cases hyt; exact if_pos rfl, ?_⟩, fun h => absurd hmem h⟩
      clear hyt
      walk_at "rd"
      refine x_cF (neV _) ?_
      obtain ⟨de, ee⟩ := pa.ob
      walk_at "rd"
      refine x_metK ?_
      walk_at "rd"
      refine ⟨pflds ad _ mo pr bh fh, rfl, ee, rfl, ?_⟩
      clear ee
      walk_at "rd"
      refine ⟨x, ad, mo, pr, bh, fh, R, _, beK, fiK, ink, rfl, pa, fun _ => ?_, fun h => absurd hmem h⟩
      obtain ⟨de, ee⟩ := pa.ob
      refine x_met ?_
      walk_at "rd"
      refine ⟨pflds ad _ mo pr bh fh, rfl, ee, rfl, ?_⟩
      clear ee
      walk_at "rd"
      refine ⟨x, ad, mo, pr, bh, fh, R, _, beK, fiK, ink, rfl, pa, fun _ => ?_, fun h => absurd hmem h⟩
      refine x_eq (scalO _) ?_
      rw [decide_eq_true rfl]
      walk_at "rd"
      refine ⟨x, ad, mo, pr, bh, fh, R, _, beK, fiK, 6, 4, rsK, [], 4, 2, [4, 11], [], true, rfl, pa, ho, hsm, hown, htabs, rfl, by kernel_rfl, by decide, hlines, by decide, hshort, hcomp, fun y3 t5 o3 H15 s15 r3 => ?_⟩
      obtain ⟨de, ee⟩ := r3.ob
      walk_at "rd"
      refine ⟨y3, de, _, rfl, ee, ⟨y3, x, t5, o3, [4, 11], [], true, rfl, r3, ⟨2, rfl, by decide, ?_⟩⟩⟩
      walk_at "rd"
      exact k _
end
end MP
end
section
namespace MPX
open PySem PySem.W PySem.Calls PyProof.Rows PySem.Spec
/-! ### the facts of an own exception class, as the top has made it -/
def errB (K : Frag) (C : Addr) : Bool :=
  decide (findIn K (.ref C) "__setattr__" = some (some (.builtin "object.__setattr__"))) && (keepIn K (.ref C) && (decide (subIn K (.ref C) (.type "BaseException") = some true) && (decide (subIn K (.ref C) (.type "ValueError") = some true) &&
  (decide (typeIn K (.ref C) = some (.type "type")) && (decide (ks_superIn K C C "__init__" = some (some (.builtin "ValueError.__init__"))) && (decide (mroIn K C (.ref C) = some true) &&
  (decide (nsIn K cStatics "thirdparty.any" = some none) && (decide (findIn K (.ref C) "__getattribute__" = some (some (.builtin "BaseException.__getattribute__"))) && (decide (findIn K (.ref C) "__getattr__" = some none) && (hasDictIn K C &&
  (decide (findIn K (.ref C) "__class__" = some (some (.builtin "object.__class__"))) && (decide (specialIn K (.builtin "object.__class__") "__get__" = some (some (.builtin "getset_descriptor.__get__"))) && (decide (takesIn K (.builtin "object.__class__") = some true) &&
  (decide (mroIn K C (.type "object") = some true) && (["line", "mode", "what", "index", "value", "paper"] : List Str).all fun n => decide (findIn K (.ref C) n = some none)))))))))))))))
theorem and_l {a b : Bool} (h : (a && b) = true) : a = true := (Bool.and_eq_true_iff.mp h).1
theorem and_r {a b : Bool} (h : (a && b) = true) : b = true := (Bool.and_eq_true_iff.mp h).2
theorem and_d {p : Prop} [Decidable p] {b : Bool} (h : (decide p && b) = true) : p := of_decide_eq_true (and_l h)
section
variable {K : Frag} {C : Addr}
theorem errB_ok (h : errB K C = true) : findIn K (.ref C) "__setattr__" = some (some (.builtin "object.__setattr__")) ∧ keepIn K (.ref C) = true ∧ subIn K (.ref C) (.type "BaseException") = some true ∧ subIn K (.ref C) (.type "ValueError") = some true ∧
    typeIn K (.ref C) = some (.type "type") ∧ ks_superIn K C C "__init__" = some (some (.builtin "ValueError.__init__")) ∧ mroIn K C (.ref C) = some true ∧ nsIn K cStatics "thirdparty.any" = some none ∧ L2.ExcC K C ∧ L2.XfC K C ∧
    ∀ n ∈ (["line", "mode", "what", "index", "value", "paper"] : List Str), findIn K (.ref C) n = some none := by
  unfold errB at h
  have h1 := and_d h
  have h := and_r h
  have h2 := and_l h
  have h := and_r h
  have h3 := and_d h
  have h := and_r h
  have h4 := and_d h
  have h := and_r h
  have h5 := and_d h
  have h := and_r h
  have h6 := and_d h
  have h := and_r h
  have h7 := and_d h
  have h := and_r h
  have h8 := and_d h
  have h := and_r h
  have h9 := and_d h
  have h := and_r h
  have h10 := and_d h
  have h := and_r h
  have h11 := and_l h
  have h := and_r h
  have h12 := and_d h
  have h := and_r h
  have h13 := and_d h
  have h := and_r h
  have h14 := and_d h
  have h := and_r h
  have h15 := and_d h
  have h := and_r h
  exact ⟨h1, h2, h3, h4, h5, h6, h7, h8, ⟨h9, h10, h3, h11, h12, h13, h14, h15⟩, ⟨h9, h10, h3, h11⟩, fun n hn => of_decide_eq_true (List.all_eq_true.mp h n hn)⟩
variable {prog : Program} {fI cda cc N : Addr} {ps : List Str} {body : List Stmt} {nm q qual file : Str} {bs bm : List Value} {sn : List Str} {sub : List Value} {ab : Bool} {col : Option Bool} {dd od cdd cld an : Option Addr} {k0 k1 k2 k3 k5 : Option Value}
  {oc dV kV doc pm ct ccl cl : Value} {osl ccs csl : Array (Option Value)} {vs : Array Value} {tf : Tok} {ar : Arg} {params : Arguments} {scope : Scope}
theorem supC_mk (eB : errB K C = true) (xL : K.lookup C = some (excClassObj nm q C N bs bm true sn sub ab col dd k0 k1 k2 k3 k5 "ValueError.__new__")) (bV : HandSPX.refsVE bm = true)
    (iC : findIn K (.ref C) "__init__" = some (some (.ref fI))) (tI : typeIn K (.ref fI) = some (.type "function")) (top : (prog.main.scope.names.lookup ("super" : Str)).isSome = false)
    (lF : K.lookup fI = some ⟨oc, od, .func (ksFn "__init__" qual params body scope dV kV doc pm an (.ref cda) ct cc), osl⟩) (cF : codeIn K (.ref cda) qual = true)
    (lC : K.lookup cda = some ⟨ccl, cdd, .fields vs, ccs⟩) (v2 : vs[2]? = some (.str file tf)) (mf : ((prog.main.file : Str) == file) = true) (lc : K.lookup cc = some ⟨cl, cld, .cell (some (.ref C)), csl⟩)
    (a1 : (params.posonlyargs ++ params.args).head? = some ar) (a2 : ar.arg = "self") (bd : ∀ us : List Value, us.length = ps.length → bindArgs (ksFn "__init__" qual params body scope dV kV doc pm an (.ref cda) ct cc) ⟨us, []⟩ = pure (ps.zip us))
    (n1 : scope.names.lookup ("super" : Str) = some .globalImplicit) (n2 : scope.names.lookup ("__class__" : Str) = some .free) (n3 : ∀ y ∈ ps, scope.names.lookup y = some .local) (n4 : ∀ x ∈ scope.names, x.2 ≠ .cell)
    (co : scope.isCoroutine = false) (ge : scope.isGenerator = false) (ki : scope.kind = .function) : SupC prog K C fI ps body := by
  obtain ⟨h1, h2, h3, h4, h5, h6, h7, h8, _⟩ := errB_ok eB
  exact ⟨⟨_, _, _, _, _, _, _, _, _, _, _, _, _, _, _, xL, bV⟩, h1, iC, tI, h2, h3, h4, h5, h6, h7, h8, top, qual, params, scope, oc, od, dV, kV, doc, pm, ct, an, osl, cda, cc, ccl, cl, cdd, cld, ccs, csl, vs, file, tf, ar, lF, cF, lC, v2, mf, lc, a1, a2, bd, n1, n2, n3, n4, co, ge, ki⟩
/-! what all errors say of each other -/
def kitB (K : Frag) (cs : List Addr) (CM : Addr) : Bool := (List.range 15).all fun i => errB K (cs.getD i 0) && (decide (kitOne K (.ref (cs.getD i 0)) (.type "ValueError") = some true) && (decide (exmOne K (.ref (cs.getD i 0)) (.ref CM) = some true) &&
  (List.range 15).all fun j => decide (kitOne K (.ref (cs.getD i 0)) (.ref (cs.getD j 0)) = some (decide (j = i)))))
end
end MPX
end
section
open PySem L2 MPX MP
local macro_rules | `(tactic| walk_at "rd1") => `(tactic| first
  | with_reducible refine x_seq ?_
  | with_reducible refine x_next ?_
  | with_reducible refine x_ret ?_
  | with_reducible refine x_retN ?_
  | with_reducible refine x_ifs ?_
  | with_reducible refine x_asg ?_
  | with_reducible refine x_drop ?_
  | with_reducible refine x_name ?_
  | ((with_reducible refine' x_var ?vv ?_); (case vv => exact rfl))
  | with_reducible refine x_c ?_
  | with_reducible refine x_op ?_
  | with_reducible refine x_un ?_
  | with_reducible refine x_test ?_
  | with_reducible refine x_tB ?_
  | with_reducible refine x_and ?_
  | with_reducible refine x_or ?_
  | with_reducible refine x_not ?_
  | with_reducible refine x_andV ?_
  | with_reducible refine x_orV ?_
  | with_reducible refine x_notV ?_
  | with_reducible refine x_if ?_
  | with_reducible refine x_nil ?_
  | with_reducible refine x_cons ?_
  | with_reducible refine x_tup ?_
  | with_reducible refine x_lst ?_
  | with_reducible refine x_cb ?_
  | with_reducible refine x_call ?_
  | with_reducible refine x_callS ?_
  | with_reducible refine x_callP ?_
  | with_reducible refine x_mk0 ?_
  | with_reducible refine x_mk1 ?_
  | with_reducible refine x_mk2 ?_
  | with_reducible refine x_make ?_
  | with_reducible refine x_sfld ?_
  | with_reducible refine x_m0 ?_
  | with_reducible refine x_m1 ?_
  | with_reducible refine x_bm0 ?_
  | with_reducible refine x_bm ?_
  | with_reducible refine x_par ?_
  | with_reducible refine x_ilist ?_
  | with_reducible refine x_itup ?_
  | with_reducible refine x_istr ?_
  | ((with_reducible show tLc _ _ _ _ _ _ _ _); unfold tLc)
  | ((with_reducible show tFor _ _ _ _ _ _); unfold tFor)
  | ((with_reducible refine' x_eq ?vv ?_); (case vv => exact rfl))
  | ((with_reducible refine' x_ne ?vv ?_); (case vv => exact rfl))
  | with_reducible refine x_rI0 ?_
  | with_reducible refine x_dget ?_
  | with_reducible refine x_dput ?_
  | with_reducible refine x_dnew ?_
  | with_reducible refine x_dget1 ?_
  | with_reducible refine x_dget2 ?_
  | with_reducible refine x_sl ?_
  | with_reducible refine x_nopart ?_
  | with_reducible refine x_part ?_
  | ((with_reducible refine' x_slL ?vv ?_); (case vv => (with_reducible assumption)))
  | with_reducible refine x_disp ?_
  | with_reducible refine x_pcons ?_
  | with_reducible refine x_pnil ?_
  | ((with_reducible refine' x_mod ?vv ?_); (case vv => omega); intro r er hr0 hr1; (try clear er))
  | ((with_reducible refine' x_rI ?vv ?_); (case vv => walk_at "sc"))
  | (with_reducible refine Or.inl (Exists.intro _ (And.intro rfl ?_)))
  | with_reducible refine x_T ?_
  | with_reducible refine x_F ?_
  | ((with_reducible show Exists (α := V) _); (with_reducible apply Exists.intro))
  | ((with_reducible show Exists (α := Bool) _); (with_reducible apply Exists.intro))
  | ((with_reducible show Exists (α := Nat) _); (with_reducible apply Exists.intro))
  | ((with_reducible show Exists (α := Int) _); (with_reducible apply Exists.intro))
  | ((with_reducible show Exists (α := List V) _); (with_reducible apply Exists.intro))
  | ((with_reducible show Exists (α := PySem.Str) _); (with_reducible apply Exists.intro))
  | ((with_reducible show Exists (α := Option V) _); (with_reducible apply Exists.intro))
  | ((with_reducible show Exists (α := Option Int) _); (with_reducible apply Exists.intro))
  | ((with_reducible show Exists (α := List (Key × V)) _); (with_reducible apply Exists.intro))
  | refine And.intro rfl ?_
  | ((with_reducible refine And.intro ?vv ?_); (case vv => (first | (with_reducible assumption) | (show _ ≤ sizeLine; decide) | exact len_ok rfl)))
  | (refine And.intro (Exists.intro _ rfl) ?_))
local macro_rules | `(tactic| walk_at "sc") => `(tactic| first
  | (with_reducible assumption)
  | exact divW (by omega) (by omega)
  | exact mulW (by omega) (by omega)
  | exact Or.inl ⟨by omega, by omega⟩
  | exact Or.inr ⟨by omega, by omega⟩
  | (show (_ : Int) ≠ 0; omega)
  | exact ⟨by decide, by decide, by decide⟩
  | decide)
local macro_rules | `(tactic| walk_at "rd") => `(tactic| repeat walk_at "rd1")
namespace MP
open PySem L2 MPX ClX
section
variable {prog : Program} {K : PySem.W.Frag} {h : Heap} {mg : Str → Option Value} {x y z f g m : Str} {C fI : Addr} {j : Nat} {p0 p1 p2 p3 p4 p5 q0 q1 q2 q3 r0 r1 r2 r3 : Pos}
theorem exc0_mk (X : K.In h) (G : h.Ns mainGlobals mg) (aC : PySem.W.nsIn K mainGlobals x = some (some (.ref C))) (su : PySem.W.nsIn K mainGlobals "super" = some none) (S : SupC prog K C fI ["self"] [supRow m j p0 p1 p2 p3 p4 p5]) (ev : SupEv m j p0 p1 p2 p3 p4) : Exc0 prog K mg x C :=
  ⟨⟨_, _, _, _, _, _, _, _, _, S, ev⟩, PySem.W.mg_of X G aC, PySem.W.mg_none_of X G su⟩
theorem exc1_mk (X : K.In h) (G : h.Ns mainGlobals mg) (aC : PySem.W.nsIn K mainGlobals x = some (some (.ref C))) (su : PySem.W.nsIn K mainGlobals "super" = some none) (S : SupC prog K C fI ["self", y] [supRow m j p0 p1 p2 p3 p4 p5, stRow f y q0 q1 q2 q3]) (ev : SupEv m j p0 p1 p2 p3 p4)
    (ne : ("self" : Str) ≠ y) (nd : (y == ("__debug__" : Str)) = false) (n1 : PySem.W.findIn K (.ref C) f = some none) : Exc1 prog K mg x C f :=
  ⟨⟨_, _, _, _, _, _, _, _, _, _, _, _, _, _, S, ev, ne, nd⟩, n1, PySem.W.mg_of X G aC, PySem.W.mg_none_of X G su⟩
theorem exc2_mk (X : K.In h) (G : h.Ns mainGlobals mg) (aC : PySem.W.nsIn K mainGlobals x = some (some (.ref C))) (su : PySem.W.nsIn K mainGlobals "super" = some none) (S : SupC prog K C fI ["self", y, z] [supRow m j p0 p1 p2 p3 p4 p5, stRow f y q0 q1 q2 q3, stRow g z r0 r1 r2 r3]) (ev : SupEv m j p0 p1 p2 p3 p4)
    (ne : (["self", y, z] : List Str).Nodup) (nd : (y == ("__debug__" : Str)) = false) (nd2 : (z == ("__debug__" : Str)) = false) (n1 : PySem.W.findIn K (.ref C) f = some none) (n2 : PySem.W.findIn K (.ref C) g = some none) : Exc2 prog K mg x C f g :=
  ⟨⟨_, _, _, _, _, _, _, _, _, _, _, _, _, _, _, _, _, _, _, S, ev, ne, nd, nd2⟩, n1, n2, PySem.W.mg_of X G aC, PySem.W.mg_none_of X G su⟩
end
/-- what a class of the program must have, as a Boolean -/
def clsB (K : PySem.W.Frag) (C f : Addr) (at_ : List Str) : Bool := PySem.W.plainGet K C Str.empty && (PySem.W.hasDictIn K C && (PySem.W.plainOver K C && (PySem.W.makesIn K C && (PySem.W.isFn K (.ref f) && (PySem.W.keepIn K (.ref C) && at_.all fun n => decide (PySem.W.findIn K (.ref C) n = some none))))))
section
variable {K : PySem.W.Frag} {C f : Addr} {at_ : List Str}
theorem cls_of (h : clsB K C f at_ = true) (s : PySem.W.findIn K (.ref C) "__setattr__" = some (some (.builtin "object.__setattr__"))) : Cls K C := ⟨and_l h, and_l (and_r h), and_l (and_r (and_r h)), s⟩
theorem na_of (h : clsB K C f at_ = true) : ∀ n ∈ at_, NoAttr K C n := fun n hn => of_decide_eq_true (p := PySem.W.findIn K (.ref C) n = some none) (List.all_eq_true.mp (and_r (and_r (and_r (and_r (and_r (and_r h)))))) n hn)
theorem mk_of (h : clsB K C f at_ = true) (i : PySem.W.findIn K (.ref C) "__init__" = some (some (.ref f))) : Mk K C f := ⟨and_l (and_r (and_r (and_r h))), i, and_l (and_r (and_r (and_r (and_r h)))), and_l (and_r (and_r (and_r (and_r (and_r h)))))⟩
end
/-- a tuple of texts in the written part -/
def strsB : List Str → List Value → Bool
  | [], [] => true
  | a :: r, .str b _ :: t => decide (a = b) && strsB r t
  | _, _ => false
def kwB (K : PySem.W.Frag) (kw : Addr) : Bool := match K.lookup kw with
  | some ⟨.type c, _, .seq its _, _⟩ => decide (c = "tuple") && (decide (its.size ≤ 100) && strsB keyW its.toList)
  | _ => false
theorem strs_of : ∀ {l : List Str} {vs : List Value}, strsB l vs = true → Vals (l.map V.str) vs
  | [], [], _ => .nil
  | a :: r, .str b t :: q, h => by
    have e : a = b := and_d h
    subst e
    exact .cons ⟨t, rfl⟩ (strs_of (and_r h))
theorem kw_of {K : PySem.W.Frag} {kw : Addr} (h : kwB K kw = true) (H : Hp) : SqT K H kw (keyW.map V.str) := by
  unfold kwB at h
  split at h
  · rename_i c d its n sl e
    have hc : c = "tuple" := and_d h
    subst hc
    have hz : its.size ≤ 100 := and_d (and_r h)
    have big : sizeLine = 16777216 := sizeLine_eq
    exact .inr ⟨_, its, n, e, rfl, rfl, by omega, strs_of (and_r (and_r h))⟩
  · cases h
/-- constants of the module -/
def strB1 (K : PySem.W.Frag) (x z : Str) : Bool := match PySem.W.nsIn K mainGlobals x with
  | some (some (.str y _)) => decide (y = z)
  | _ => false
def intB1 (K : PySem.W.Frag) (x : Str) (z : Int) : Bool := match PySem.W.nsIn K mainGlobals x with
  | some (some (.int y _)) => decide (y = z)
  | _ => false
theorem str1_of {K : PySem.W.Frag} {x z : Str} (h : strB1 K x z = true) : ∃ t, PySem.W.nsIn K mainGlobals x = some (some (.str z t)) := by
  unfold strB1 at h
  split at h
  · rename_i y t e
    rw [of_decide_eq_true h] at e
    exact ⟨t, e⟩
  · cases h
theorem int1_of {K : PySem.W.Frag} {x : Str} {z : Int} (h : intB1 K x z = true) : ∃ t, PySem.W.nsIn K mainGlobals x = some (some (.int z t)) := by
  unfold intB1 at h
  split at h
  · rename_i y t e
    rw [of_decide_eq_true h] at e
    exact ⟨t, e⟩
  · cases h
/-! keywords bound -/
theorem vals_sw1 {vs zs : List V} {us ws : List Value} (r1 : Vals vs us) (r2 : Vals zs ws) : Vals (sw1 vs zs) (sw1 us ws) := by
  cases r1 with
  | nil => exact .nil
  | cons a t =>
    cases t with
    | cons b t => exact .nil
    | nil =>
      cases r2 with
      | nil => exact .nil
      | cons b t =>
        cases t with
        | cons c t => exact .nil
        | nil => exact .cons a (.cons b .nil)
theorem vals_sw2 {vs zs : List V} {us ws : List Value} (r1 : Vals vs us) (r2 : Vals zs ws) : Vals (sw2 vs zs) (sw2 us ws) := by
  cases r1 with
  | nil => exact .nil
  | cons a t =>
    cases t with
    | cons b t => exact .nil
    | nil =>
      cases r2 with
      | nil => exact .nil
      | cons b t =>
        cases t with
        | nil => exact .nil
        | cons c t =>
          cases t with
          | cons d t => exact .nil
          | nil => exact .cons a (.cons c (.cons b .nil))
section
variable {K : PySem.W.Frag} {x qual : Str} {st : Stmt} {f : Addr} {fd : FuncData} {ks ps : List Str}
theorem kb0 (F : Fun K x qual st f fd) (h : ∀ (kV doc pm : Value) (an : Option Addr) (cdv ct i : Value), bindArgs (PySem.W.fnOf x qual (defArgs st) (defBody st) (defScope st) .none kV doc pm an cdv ct) ⟨[], ks.zip [i]⟩ = pure (ps.zip [i])) (hp : ps.length = 1) : KBinds K fd ps ks sw0 sw0 := by
  obtain ⟨oc, od, kV, doc, pm, an, cdv, ct, osl, rfl, lk, hcd⟩ := F.ex
  refine ⟨fun s us ws X hl => ?_, fun r1 r2 => ?_⟩
  · rw [hp] at hl
    match us, ws, hl with
    | [], [i], _ => exact .of_eq (h kV doc pm an cdv ct i)
  · cases r1 with
    | nil =>
      cases r2 with
      | nil => exact .nil
      | cons a t =>
        cases t with
        | nil => exact .cons a .nil
        | cons b t => exact .nil
    | cons a t => exact .nil
theorem kb1 (F : Fun K x qual st f fd) (h : ∀ (kV doc pm : Value) (an : Option Addr) (cdv ct a i : Value), bindArgs (PySem.W.fnOf x qual (defArgs st) (defBody st) (defScope st) .none kV doc pm an cdv ct) ⟨[a], ks.zip [i]⟩ = pure (ps.zip [a, i])) (hp : ps.length = 2) : KBinds K fd ps ks sw1 sw1 := by
  obtain ⟨oc, od, kV, doc, pm, an, cdv, ct, osl, rfl, lk, hcd⟩ := F.ex
  refine ⟨fun s us ws X hl => ?_, fun r1 r2 => vals_sw1 r1 r2⟩
  rw [hp] at hl
  match us, ws, hl with
  | [a], [i], _ => exact .of_eq (h kV doc pm an cdv ct a i)
theorem kb2 (F : Fun K x qual st f fd) (h : ∀ (kV doc pm : Value) (an : Option Addr) (cdv ct a i m : Value), bindArgs (PySem.W.fnOf x qual (defArgs st) (defBody st) (defScope st) .none kV doc pm an cdv ct) ⟨[a], ks.zip [i, m]⟩ = pure (ps.zip [a, m, i])) (hp : ps.length = 3) : KBinds K fd ps ks sw2 sw2 := by
  obtain ⟨oc, od, kV, doc, pm, an, cdv, ct, osl, rfl, lk, hcd⟩ := F.ex
  refine ⟨fun s us ws X hl => ?_, fun r1 r2 => vals_sw2 r1 r2⟩
  rw [hp] at hl
  match us, ws, hl with
  | [a], [i, m], _ => exact .of_eq (h kV doc pm an cdv ct a i m)
theorem kn1 (F : Fun K x qual st f fd) (h : ∀ (kV doc pm : Value) (an : Option Addr) (cdv ct a i : Value), bindArgs (PySem.W.fnOf x qual (defArgs st) (defBody st) (defScope st) .none kV doc pm an cdv ct) ⟨[a], ks.zip [i]⟩ = pure (ps.zip [a, i])) (hk : ks.length = 1) : KBn K fd ps 1 ks sw1 sw1 := by
  obtain ⟨oc, od, kV, doc, pm, an, cdv, ct, osl, rfl, lk, hcd⟩ := F.ex
  refine ⟨fun s us ws X l1 l2 => ?_, fun r1 r2 => vals_sw1 r1 r2⟩
  rw [hk] at l2
  match us, ws, l1, l2 with
  | [a], [i], _, _ => exact .of_eq (h kV doc pm an cdv ct a i)
theorem kn2 (F : Fun K x qual st f fd) (h : ∀ (kV doc pm : Value) (an : Option Addr) (cdv ct a i m : Value), bindArgs (PySem.W.fnOf x qual (defArgs st) (defBody st) (defScope st) .none kV doc pm an cdv ct) ⟨[a], ks.zip [i, m]⟩ = pure (ps.zip [a, m, i])) (hk : ks.length = 2) : KBn K fd ps 1 ks sw2 sw2 := by
  obtain ⟨oc, od, kV, doc, pm, an, cdv, ct, osl, rfl, lk, hcd⟩ := F.ex
  refine ⟨fun s us ws X l1 l2 => ?_, fun r1 r2 => vals_sw2 r1 r2⟩
  rw [hk] at l2
  match us, ws, l1, l2 with
  | [a], [i, m], _, _ => exact .of_eq (h kV doc pm an cdv ct a i m)
end
theorem all_mk {l : PySem.W.OpenLaw} {w : World} {K : PySem.W.Frag} {h : Heap} {mg : Str → Option Value} {fa : Addr} (X : K.In h) (G : h.Ns mainGlobals mg) (hfa : mg "law" = some (.ref fa))
    {CRd CP CR CB CT CN CO CM kw pS f__law_pen f__law_draw f__law_pick f__law_rows f_words_of f_is_made_of f_is_name f_is_price f_item_of f_read_start f_read_proc f_read_end f_read_block f_read_or f_read_leave f_read_do f_read_mode f_read_inside f_read_line f_read_text f_check_mode f_prices_of f_item_at f_step_lines f_following_lines f_walked_calls f_last_value f_need_of f_sum_of f_least_of f_return_length f_stop_length f_shortest_tables f_shortest_step f_shortest_lines f_Reading_init f_Program_init f_Run_init f_Program___eq__ f_Program_choices f_Program_price f_Program_begin f_Program_item f_Run___len__ f_Run___eq__ f_Run_last f_Run_next f_Run_need f_Run_shortest f_law : Addr}
    (a__law_pen : PySem.W.nsIn K mainGlobals "_law_pen" = some (some (.ref f__law_pen)))
    (F__law_pen : ∃ fd, Fun K "_law_pen" "_law_pen" s__law_pen f__law_pen fd)
    (a__law_draw : PySem.W.nsIn K mainGlobals "_law_draw" = some (some (.ref f__law_draw)))
    (F__law_draw : ∃ fd, Fun K "_law_draw" "_law_draw" s__law_draw f__law_draw fd)
    (a__law_pick : PySem.W.nsIn K mainGlobals "_law_pick" = some (some (.ref f__law_pick)))
    (F__law_pick : ∃ fd, Fun K "_law_pick" "_law_pick" s__law_pick f__law_pick fd)
    (a__law_rows : PySem.W.nsIn K mainGlobals "_law_rows" = some (some (.ref f__law_rows)))
    (F__law_rows : ∃ fd, Fun K "_law_rows" "_law_rows" s__law_rows f__law_rows fd)
    (a_words_of : PySem.W.nsIn K mainGlobals "words_of" = some (some (.ref f_words_of)))
    (F_words_of : ∃ fd, Fun K "words_of" "words_of" s_words_of f_words_of fd)
    (a_is_made_of : PySem.W.nsIn K mainGlobals "is_made_of" = some (some (.ref f_is_made_of)))
    (F_is_made_of : ∃ fd, Fun K "is_made_of" "is_made_of" s_is_made_of f_is_made_of fd)
    (a_is_name : PySem.W.nsIn K mainGlobals "is_name" = some (some (.ref f_is_name)))
    (F_is_name : ∃ fd, Fun K "is_name" "is_name" s_is_name f_is_name fd)
    (a_is_price : PySem.W.nsIn K mainGlobals "is_price" = some (some (.ref f_is_price)))
    (F_is_price : ∃ fd, Fun K "is_price" "is_price" s_is_price f_is_price fd)
    (a_item_of : PySem.W.nsIn K mainGlobals "item_of" = some (some (.ref f_item_of)))
    (F_item_of : ∃ fd, Fun K "item_of" "item_of" s_item_of f_item_of fd)
    (a_read_start : PySem.W.nsIn K mainGlobals "read_start" = some (some (.ref f_read_start)))
    (F_read_start : ∃ fd, Fun K "read_start" "read_start" s_read_start f_read_start fd)
    (a_read_proc : PySem.W.nsIn K mainGlobals "read_proc" = some (some (.ref f_read_proc)))
    (F_read_proc : ∃ fd, Fun K "read_proc" "read_proc" s_read_proc f_read_proc fd)
    (a_read_end : PySem.W.nsIn K mainGlobals "read_end" = some (some (.ref f_read_end)))
    (F_read_end : ∃ fd, Fun K "read_end" "read_end" s_read_end f_read_end fd)
    (a_read_block : PySem.W.nsIn K mainGlobals "read_block" = some (some (.ref f_read_block)))
    (F_read_block : ∃ fd, Fun K "read_block" "read_block" s_read_block f_read_block fd)
    (a_read_or : PySem.W.nsIn K mainGlobals "read_or" = some (some (.ref f_read_or)))
    (F_read_or : ∃ fd, Fun K "read_or" "read_or" s_read_or f_read_or fd)
    (a_read_leave : PySem.W.nsIn K mainGlobals "read_leave" = some (some (.ref f_read_leave)))
    (F_read_leave : ∃ fd, Fun K "read_leave" "read_leave" s_read_leave f_read_leave fd)
    (a_read_do : PySem.W.nsIn K mainGlobals "read_do" = some (some (.ref f_read_do)))
    (F_read_do : ∃ fd, Fun K "read_do" "read_do" s_read_do f_read_do fd)
    (a_read_mode : PySem.W.nsIn K mainGlobals "read_mode" = some (some (.ref f_read_mode)))
    (F_read_mode : ∃ fd, Fun K "read_mode" "read_mode" s_read_mode f_read_mode fd)
    (a_read_inside : PySem.W.nsIn K mainGlobals "read_inside" = some (some (.ref f_read_inside)))
    (F_read_inside : ∃ fd, Fun K "read_inside" "read_inside" s_read_inside f_read_inside fd)
    (a_read_line : PySem.W.nsIn K mainGlobals "read_line" = some (some (.ref f_read_line)))
    (F_read_line : ∃ fd, Fun K "read_line" "read_line" s_read_line f_read_line fd)
    (a_read_text : PySem.W.nsIn K mainGlobals "read_text" = some (some (.ref f_read_text)))
    (F_read_text : ∃ fd, Fun K "read_text" "read_text" s_read_text f_read_text fd)
    (a_check_mode : PySem.W.nsIn K mainGlobals "check_mode" = some (some (.ref f_check_mode)))
    (F_check_mode : ∃ fd, Fun K "check_mode" "check_mode" s_check_mode f_check_mode fd)
    (a_prices_of : PySem.W.nsIn K mainGlobals "prices_of" = some (some (.ref f_prices_of)))
    (F_prices_of : ∃ fd, Fun K "prices_of" "prices_of" s_prices_of f_prices_of fd)
    (a_item_at : PySem.W.nsIn K mainGlobals "item_at" = some (some (.ref f_item_at)))
    (F_item_at : ∃ fd, Fun K "item_at" "item_at" s_item_at f_item_at fd)
    (a_step_lines : PySem.W.nsIn K mainGlobals "step_lines" = some (some (.ref f_step_lines)))
    (F_step_lines : ∃ fd, Fun K "step_lines" "step_lines" s_step_lines f_step_lines fd)
    (a_following_lines : PySem.W.nsIn K mainGlobals "following_lines" = some (some (.ref f_following_lines)))
    (F_following_lines : ∃ fd, Fun K "following_lines" "following_lines" s_following_lines f_following_lines fd)
    (a_walked_calls : PySem.W.nsIn K mainGlobals "walked_calls" = some (some (.ref f_walked_calls)))
    (F_walked_calls : ∃ fd, Fun K "walked_calls" "walked_calls" s_walked_calls f_walked_calls fd)
    (a_last_value : PySem.W.nsIn K mainGlobals "last_value" = some (some (.ref f_last_value)))
    (F_last_value : ∃ fd, Fun K "last_value" "last_value" s_last_value f_last_value fd)
    (a_need_of : PySem.W.nsIn K mainGlobals "need_of" = some (some (.ref f_need_of)))
    (F_need_of : ∃ fd, Fun K "need_of" "need_of" s_need_of f_need_of fd)
    (a_sum_of : PySem.W.nsIn K mainGlobals "sum_of" = some (some (.ref f_sum_of)))
    (F_sum_of : ∃ fd, Fun K "sum_of" "sum_of" s_sum_of f_sum_of fd)
    (a_least_of : PySem.W.nsIn K mainGlobals "least_of" = some (some (.ref f_least_of)))
    (F_least_of : ∃ fd, Fun K "least_of" "least_of" s_least_of f_least_of fd)
    (a_return_length : PySem.W.nsIn K mainGlobals "return_length" = some (some (.ref f_return_length)))
    (F_return_length : ∃ fd, Fun K "return_length" "return_length" s_return_length f_return_length fd)
    (a_stop_length : PySem.W.nsIn K mainGlobals "stop_length" = some (some (.ref f_stop_length)))
    (F_stop_length : ∃ fd, Fun K "stop_length" "stop_length" s_stop_length f_stop_length fd)
    (a_shortest_tables : PySem.W.nsIn K mainGlobals "shortest_tables" = some (some (.ref f_shortest_tables)))
    (F_shortest_tables : ∃ fd, Fun K "shortest_tables" "shortest_tables" s_shortest_tables f_shortest_tables fd)
    (a_shortest_step : PySem.W.nsIn K mainGlobals "shortest_step" = some (some (.ref f_shortest_step)))
    (F_shortest_step : ∃ fd, Fun K "shortest_step" "shortest_step" s_shortest_step f_shortest_step fd)
    (a_shortest_lines : PySem.W.nsIn K mainGlobals "shortest_lines" = some (some (.ref f_shortest_lines)))
    (F_shortest_lines : ∃ fd, Fun K "shortest_lines" "shortest_lines" s_shortest_lines f_shortest_lines fd)
    (a_law : PySem.W.nsIn K mainGlobals "law" = some (some (.ref f_law)))
    (F_law : ∃ fd, Fun K "law" "law" s_law f_law fd)
    (a_Reading : PySem.W.nsIn K mainGlobals "Reading" = some (some (.ref CRd)))
    (i_Reading : PySem.W.findIn K (.ref CRd) "__init__" = some (some (.ref f_Reading_init)))
    (F_Reading_init : ∃ fd, Fun K "__init__" "Reading.__init__" s_Reading___init__ f_Reading_init fd)
    (c_Reading : clsB K CRd f_Reading_init rall = true)
    (s_Reading : PySem.W.findIn K (.ref CRd) "__setattr__" = some (some (.builtin "object.__setattr__")))
    (a_Program : PySem.W.nsIn K mainGlobals "Program" = some (some (.ref CP)))
    (i_Program : PySem.W.findIn K (.ref CP) "__init__" = some (some (.ref f_Program_init)))
    (F_Program_init : ∃ fd, Fun K "__init__" "Program.__init__" s_Program___init__ f_Program_init fd)
    (c_Program : clsB K CP f_Program_init pall = true)
    (s_Program : PySem.W.findIn K (.ref CP) "__setattr__" = some (some (.builtin "object.__setattr__")))
    (a_Run : PySem.W.nsIn K mainGlobals "Run" = some (some (.ref CR)))
    (i_Run : PySem.W.findIn K (.ref CR) "__init__" = some (some (.ref f_Run_init)))
    (F_Run_init : ∃ fd, Fun K "__init__" "Run.__init__" s_Run___init__ f_Run_init fd)
    (c_Run : clsB K CR f_Run_init runA = true)
    (s_Run : PySem.W.findIn K (.ref CR) "__setattr__" = some (some (.builtin "object.__setattr__")))
    (i_Program___eq__ : PySem.W.findIn K (.ref CP) "__eq__" = some (some (.ref f_Program___eq__)))
    (F_Program___eq__ : ∃ fd, Fun K "__eq__" "Program.__eq__" s_Program___eq__ f_Program___eq__ fd)
    (n_Program___eq__ : PySem.W.isFn K (.ref f_Program___eq__) = true)
    (i_Program_choices : PySem.W.findIn K (.ref CP) "choices" = some (some (.ref f_Program_choices)))
    (F_Program_choices : ∃ fd, Fun K "choices" "Program.choices" s_Program_choices f_Program_choices fd)
    (n_Program_choices : PySem.W.isFn K (.ref f_Program_choices) = true)
    (i_Program_price : PySem.W.findIn K (.ref CP) "price" = some (some (.ref f_Program_price)))
    (F_Program_price : ∃ fd, Fun K "price" "Program.price" s_Program_price f_Program_price fd)
    (n_Program_price : PySem.W.isFn K (.ref f_Program_price) = true)
    (i_Program_begin : PySem.W.findIn K (.ref CP) "begin" = some (some (.ref f_Program_begin)))
    (F_Program_begin : ∃ fd, Fun K "begin" "Program.begin" s_Program_begin f_Program_begin fd)
    (n_Program_begin : PySem.W.isFn K (.ref f_Program_begin) = true)
    (i_Program_item : PySem.W.findIn K (.ref CP) "item" = some (some (.ref f_Program_item)))
    (F_Program_item : ∃ fd, Fun K "item" "Program.item" s_Program_item f_Program_item fd)
    (n_Program_item : PySem.W.isFn K (.ref f_Program_item) = true)
    (i_Run___len__ : PySem.W.findIn K (.ref CR) "__len__" = some (some (.ref f_Run___len__)))
    (F_Run___len__ : ∃ fd, Fun K "__len__" "Run.__len__" s_Run___len__ f_Run___len__ fd)
    (n_Run___len__ : PySem.W.isFn K (.ref f_Run___len__) = true)
    (i_Run___eq__ : PySem.W.findIn K (.ref CR) "__eq__" = some (some (.ref f_Run___eq__)))
    (F_Run___eq__ : ∃ fd, Fun K "__eq__" "Run.__eq__" s_Run___eq__ f_Run___eq__ fd)
    (n_Run___eq__ : PySem.W.isFn K (.ref f_Run___eq__) = true)
    (i_Run_last : PySem.W.findIn K (.ref CR) "last" = some (some (.ref f_Run_last)))
    (F_Run_last : ∃ fd, Fun K "last" "Run.last" s_Run_last f_Run_last fd)
    (n_Run_last : PySem.W.isFn K (.ref f_Run_last) = true)
    (i_Run_next : PySem.W.findIn K (.ref CR) "next" = some (some (.ref f_Run_next)))
    (F_Run_next : ∃ fd, Fun K "next" "Run.next" s_Run_next f_Run_next fd)
    (n_Run_next : PySem.W.isFn K (.ref f_Run_next) = true)
    (i_Run_need : PySem.W.findIn K (.ref CR) "need" = some (some (.ref f_Run_need)))
    (F_Run_need : ∃ fd, Fun K "need" "Run.need" s_Run_need f_Run_need fd)
    (n_Run_need : PySem.W.isFn K (.ref f_Run_need) = true)
    (smet : ∃ mc, CRead K CR mc ∧ SMet K CR mc "shortest" pS f_Run_shortest)
    (F_Run_shortest : ∃ fd, Fun K "shortest" "Run.shortest" s_Run_shortest f_Run_shortest fd)
    (e_BadText : Exc1 l.prog K mg "BadText" CB "line")
    (e_TooMany : Exc1 l.prog K mg "TooMany" CT "what")
    (e_NotRun : Exc1 l.prog K mg "NotRun" CN "index")
    (e_NoRun : Exc0 l.prog K mg "NoRun" CO)
    (e_BadMode : Exc1 l.prog K mg "BadMode" CM "mode")
    (y_len : PySem.W.nsIn K mainGlobals "len" = some none)
    (y_int : PySem.W.nsIn K mainGlobals "int" = some none)
    (y_list : PySem.W.nsIn K mainGlobals "list" = some none)
    (y_tuple : PySem.W.nsIn K mainGlobals "tuple" = some none)
    (y_zip : PySem.W.nsIn K mainGlobals "zip" = some none)
    (y_reversed : PySem.W.nsIn K mainGlobals "reversed" = some none)
    (y_enumerate : PySem.W.nsIn K mainGlobals "enumerate" = some none)
    (y_range : PySem.W.nsIn K mainGlobals "range" = some none)
    (y_str : PySem.W.nsIn K mainGlobals "str" = some none)
    (y_min : PySem.W.nsIn K mainGlobals "min" = some none)
    (y_isinstance : PySem.W.nsIn K mainGlobals "isinstance" = some none)
    (a_KEYWORDS : PySem.W.nsIn K mainGlobals "KEYWORDS" = some (some (.ref kw)))
    (kwb : kwB K kw = true)
    (a_LETTERS : ∃ t, PySem.W.nsIn K mainGlobals "LETTERS" = some (some (.str lettersS t)))
    (a_DIGITS : ∃ t, PySem.W.nsIn K mainGlobals "DIGITS" = some (some (.str digitsS t)))
    (a_LONGEST_NAME : ∃ t, PySem.W.nsIn K mainGlobals "LONGEST_NAME" = some (some (.int 12 t)))
    (a_MOST_PRICE : ∃ t, PySem.W.nsIn K mainGlobals "MOST_PRICE" = some (some (.int 1000000000000000000000000000000 t)))
    (a_MOST_DIGITS : ∃ t, PySem.W.nsIn K mainGlobals "MOST_DIGITS" = some (some (.int 31 t)))
    (a_MOST_CHARACTERS : ∃ t, PySem.W.nsIn K mainGlobals "MOST_CHARACTERS" = some (some (.int 6000 t)))
    (a_MOST_LINES : ∃ t, PySem.W.nsIn K mainGlobals "MOST_LINES" = some (some (.int 120 t)))
    (a_MOST_MODES : ∃ t, PySem.W.nsIn K mainGlobals "MOST_MODES" = some (some (.int 6 t)))
    (a_MOST_VALUES : ∃ t, PySem.W.nsIn K mainGlobals "MOST_VALUES" = some (some (.int 6 t)))
    (a_MOST_PROCEDURES : ∃ t, PySem.W.nsIn K mainGlobals "MOST_PROCEDURES" = some (some (.int 6 t)))
    (a_MOST_BLOCKS : ∃ t, PySem.W.nsIn K mainGlobals "MOST_BLOCKS" = some (some (.int 8 t)))
    (a_MOST_ITEMS : ∃ t, PySem.W.nsIn K mainGlobals "MOST_ITEMS" = some (some (.int 6 t)))
    (kcP : PySem.W.findIn K (.ref CP) "__class__" = some (some (.builtin "object.__class__")))
    (kcR : PySem.W.findIn K (.ref CR) "__class__" = some (some (.builtin "object.__class__")))
    (moP : PySem.W.mroIn K CP (.type "object") = some true)
    (moR : PySem.W.mroIn K CR (.type "object") = some true)
    (k1 : PySem.W.specialIn K (.builtin "object.__class__") "__get__" = some (some (.builtin "getset_descriptor.__get__")))
    (k2 : PySem.W.takesIn K (.builtin "object.__class__") = some true)
    : ∃ fd : FuncData, (∀ (s : Shared) (v : Value), BindsTo s fd ⟨[v], []⟩ [("_law_script", v)]) ∧ ∀ base : Heap, K.In base → base.Ns mainGlobals mg → FnOk l.prog w K mg base CX0 10 fa fd P_law (sp_law K) := by
  have e := hfa.symm.trans (PySem.W.mg_of X G a_law)
  cases e
  obtain ⟨fd__law_pen, F__law_pen⟩ := F__law_pen
  obtain ⟨fd__law_draw, F__law_draw⟩ := F__law_draw
  obtain ⟨fd__law_pick, F__law_pick⟩ := F__law_pick
  obtain ⟨fd__law_rows, F__law_rows⟩ := F__law_rows
  obtain ⟨fd_words_of, F_words_of⟩ := F_words_of
  obtain ⟨fd_is_made_of, F_is_made_of⟩ := F_is_made_of
  obtain ⟨fd_is_name, F_is_name⟩ := F_is_name
  obtain ⟨fd_is_price, F_is_price⟩ := F_is_price
  obtain ⟨fd_item_of, F_item_of⟩ := F_item_of
  obtain ⟨fd_read_start, F_read_start⟩ := F_read_start
  obtain ⟨fd_read_proc, F_read_proc⟩ := F_read_proc
  obtain ⟨fd_read_end, F_read_end⟩ := F_read_end
  obtain ⟨fd_read_block, F_read_block⟩ := F_read_block
  obtain ⟨fd_read_or, F_read_or⟩ := F_read_or
  obtain ⟨fd_read_leave, F_read_leave⟩ := F_read_leave
  obtain ⟨fd_read_do, F_read_do⟩ := F_read_do
  obtain ⟨fd_read_mode, F_read_mode⟩ := F_read_mode
  obtain ⟨fd_read_inside, F_read_inside⟩ := F_read_inside
  obtain ⟨fd_read_line, F_read_line⟩ := F_read_line
  obtain ⟨fd_read_text, F_read_text⟩ := F_read_text
  obtain ⟨fd_check_mode, F_check_mode⟩ := F_check_mode
  obtain ⟨fd_prices_of, F_prices_of⟩ := F_prices_of
  obtain ⟨fd_item_at, F_item_at⟩ := F_item_at
  obtain ⟨fd_step_lines, F_step_lines⟩ := F_step_lines
  obtain ⟨fd_following_lines, F_following_lines⟩ := F_following_lines
  obtain ⟨fd_walked_calls, F_walked_calls⟩ := F_walked_calls
  obtain ⟨fd_last_value, F_last_value⟩ := F_last_value
  obtain ⟨fd_need_of, F_need_of⟩ := F_need_of
  obtain ⟨fd_sum_of, F_sum_of⟩ := F_sum_of
  obtain ⟨fd_least_of, F_least_of⟩ := F_least_of
  obtain ⟨fd_return_length, F_return_length⟩ := F_return_length
  obtain ⟨fd_stop_length, F_stop_length⟩ := F_stop_length
  obtain ⟨fd_shortest_tables, F_shortest_tables⟩ := F_shortest_tables
  obtain ⟨fd_shortest_step, F_shortest_step⟩ := F_shortest_step
  obtain ⟨fd_shortest_lines, F_shortest_lines⟩ := F_shortest_lines
  obtain ⟨fdlaw, F_law⟩ := F_law
  obtain ⟨fd_Reading_init, F_Reading_init⟩ := F_Reading_init
  obtain ⟨fd_Program_init, F_Program_init⟩ := F_Program_init
  obtain ⟨fd_Run_init, F_Run_init⟩ := F_Run_init
  obtain ⟨fd_Program___eq__, F_Program___eq__⟩ := F_Program___eq__
  obtain ⟨fd_Program_choices, F_Program_choices⟩ := F_Program_choices
  obtain ⟨fd_Program_price, F_Program_price⟩ := F_Program_price
  obtain ⟨fd_Program_begin, F_Program_begin⟩ := F_Program_begin
  obtain ⟨fd_Program_item, F_Program_item⟩ := F_Program_item
  obtain ⟨fd_Run___len__, F_Run___len__⟩ := F_Run___len__
  obtain ⟨fd_Run___eq__, F_Run___eq__⟩ := F_Run___eq__
  obtain ⟨fd_Run_last, F_Run_last⟩ := F_Run_last
  obtain ⟨fd_Run_next, F_Run_next⟩ := F_Run_next
  obtain ⟨fd_Run_need, F_Run_need⟩ := F_Run_need
  obtain ⟨fd_shortest, F_Run_shortest⟩ := F_Run_shortest
  obtain ⟨t_LETTERS, a_LETTERS⟩ := a_LETTERS
  obtain ⟨t_DIGITS, a_DIGITS⟩ := a_DIGITS
  obtain ⟨t_LONGEST_NAME, a_LONGEST_NAME⟩ := a_LONGEST_NAME
  obtain ⟨t_MOST_PRICE, a_MOST_PRICE⟩ := a_MOST_PRICE
  obtain ⟨t_MOST_DIGITS, a_MOST_DIGITS⟩ := a_MOST_DIGITS
  obtain ⟨t_MOST_CHARACTERS, a_MOST_CHARACTERS⟩ := a_MOST_CHARACTERS
  obtain ⟨t_MOST_LINES, a_MOST_LINES⟩ := a_MOST_LINES
  obtain ⟨t_MOST_MODES, a_MOST_MODES⟩ := a_MOST_MODES
  obtain ⟨t_MOST_VALUES, a_MOST_VALUES⟩ := a_MOST_VALUES
  obtain ⟨t_MOST_PROCEDURES, a_MOST_PROCEDURES⟩ := a_MOST_PROCEDURES
  obtain ⟨t_MOST_BLOCKS, a_MOST_BLOCKS⟩ := a_MOST_BLOCKS
  obtain ⟨t_MOST_ITEMS, a_MOST_ITEMS⟩ := a_MOST_ITEMS
  have z_len := PySem.W.mg_none_of X G y_len
  have z_int := PySem.W.mg_none_of X G y_int
  have z_list := PySem.W.mg_none_of X G y_list
  have z_tuple := PySem.W.mg_none_of X G y_tuple
  have z_zip := PySem.W.mg_none_of X G y_zip
  have z_reversed := PySem.W.mg_none_of X G y_reversed
  have z_enumerate := PySem.W.mg_none_of X G y_enumerate
  have z_range := PySem.W.mg_none_of X G y_range
  have z_str := PySem.W.mg_none_of X G y_str
  have z_min := PySem.W.mg_none_of X G y_min
  have z_isinstance := PySem.W.mg_none_of X G y_isinstance
  have cl_Reading := cls_of c_Reading s_Reading
  have na_Reading := na_of c_Reading
  have mk_Reading := mk_of c_Reading i_Reading
  have cl_Program := cls_of c_Program s_Program
  have na_Program := na_of c_Program
  have mk_Program := mk_of c_Program i_Program
  have cl_Run := cls_of c_Run s_Run
  have na_Run := na_of c_Run
  have mk_Run := mk_of c_Run i_Run
  have b__law_pen := F__law_pen.binds (ps := P__law_pen) fun _ _ _ _ _ _ us hl => match us, hl with | [_], _ => rfl
  have b__law_draw := F__law_draw.binds (ps := P__law_draw) fun _ _ _ _ _ _ us hl => match us, hl with | [_, _], _ => rfl
  have b__law_pick := F__law_pick.binds (ps := P__law_pick) fun _ _ _ _ _ _ us hl => match us, hl with | [_, _], _ => rfl
  have b__law_rows := F__law_rows.binds (ps := P__law_rows) fun _ _ _ _ _ _ us hl => match us, hl with | [_], _ => rfl
  have b_words_of := F_words_of.binds (ps := P_words_of) fun _ _ _ _ _ _ us hl => match us, hl with | [_], _ => rfl
  have b_is_made_of := F_is_made_of.binds (ps := P_is_made_of) fun _ _ _ _ _ _ us hl => match us, hl with | [_, _], _ => rfl
  have b_is_name := F_is_name.binds (ps := P_is_name) fun _ _ _ _ _ _ us hl => match us, hl with | [_], _ => rfl
  have b_is_price := F_is_price.binds (ps := P_is_price) fun _ _ _ _ _ _ us hl => match us, hl with | [_], _ => rfl
  have b_item_of := F_item_of.binds (ps := P_item_of) fun _ _ _ _ _ _ us hl => match us, hl with | [_], _ => rfl
  have b_read_start := F_read_start.binds (ps := P_read_start) fun _ _ _ _ _ _ us hl => match us, hl with | [_, _], _ => rfl
  have b_read_proc := F_read_proc.binds (ps := P_read_proc) fun _ _ _ _ _ _ us hl => match us, hl with | [_, _, _], _ => rfl
  have b_read_end := F_read_end.binds (ps := P_read_end) fun _ _ _ _ _ _ us hl => match us, hl with | [_, _], _ => rfl
  have b_read_block := F_read_block.binds (ps := P_read_block) fun _ _ _ _ _ _ us hl => match us, hl with | [_, _, _], _ => rfl
  have b_read_or := F_read_or.binds (ps := P_read_or) fun _ _ _ _ _ _ us hl => match us, hl with | [_, _], _ => rfl
  have b_read_leave := F_read_leave.binds (ps := P_read_leave) fun _ _ _ _ _ _ us hl => match us, hl with | [_, _], _ => rfl
  have b_read_do := F_read_do.binds (ps := P_read_do) fun _ _ _ _ _ _ us hl => match us, hl with | [_, _, _], _ => rfl
  have b_read_mode := F_read_mode.binds (ps := P_read_mode) fun _ _ _ _ _ _ us hl => match us, hl with | [_, _], _ => rfl
  have b_read_inside := F_read_inside.binds (ps := P_read_inside) fun _ _ _ _ _ _ us hl => match us, hl with | [_, _, _], _ => rfl
  have b_read_line := F_read_line.binds (ps := P_read_line) fun _ _ _ _ _ _ us hl => match us, hl with | [_, _, _], _ => rfl
  have b_read_text := F_read_text.binds (ps := P_read_text) fun _ _ _ _ _ _ us hl => match us, hl with | [_], _ => rfl
  have b_check_mode := F_check_mode.binds (ps := P_check_mode) fun _ _ _ _ _ _ us hl => match us, hl with | [_, _], _ => rfl
  have b_prices_of := F_prices_of.binds (ps := P_prices_of) fun _ _ _ _ _ _ us hl => match us, hl with | [_, _], _ => rfl
  have b_item_at := F_item_at.binds (ps := P_item_at) fun _ _ _ _ _ _ us hl => match us, hl with | [_, _, _], _ => rfl
  have b_step_lines := F_step_lines.binds (ps := P_step_lines) fun _ _ _ _ _ _ us hl => match us, hl with | [_, _], _ => rfl
  have b_following_lines := F_following_lines.binds (ps := P_following_lines) fun _ _ _ _ _ _ us hl => match us, hl with | [_, _, _], _ => rfl
  have b_walked_calls := F_walked_calls.binds (ps := P_walked_calls) fun _ _ _ _ _ _ us hl => match us, hl with | [_, _], _ => rfl
  have b_last_value := F_last_value.binds (ps := P_last_value) fun _ _ _ _ _ _ us hl => match us, hl with | [_, _, _], _ => rfl
  have b_need_of := F_need_of.binds (ps := P_need_of) fun _ _ _ _ _ _ us hl => match us, hl with | [_, _, _], _ => rfl
  have b_sum_of := F_sum_of.binds (ps := P_sum_of) fun _ _ _ _ _ _ us hl => match us, hl with | [_], _ => rfl
  have b_least_of := F_least_of.binds (ps := P_least_of) fun _ _ _ _ _ _ us hl => match us, hl with | [_], _ => rfl
  have b_return_length := F_return_length.binds (ps := P_return_length) fun _ _ _ _ _ _ us hl => match us, hl with | [_, _, _], _ => rfl
  have b_stop_length := F_stop_length.binds (ps := P_stop_length) fun _ _ _ _ _ _ us hl => match us, hl with | [_, _, _, _], _ => rfl
  have b_shortest_tables := F_shortest_tables.binds (ps := P_shortest_tables) fun _ _ _ _ _ _ us hl => match us, hl with | [_], _ => rfl
  have b_shortest_step := F_shortest_step.binds (ps := P_shortest_step) fun _ _ _ _ _ _ us hl => match us, hl with | [_, _, _, _, _], _ => rfl
  have b_shortest_lines := F_shortest_lines.binds (ps := P_shortest_lines) fun _ _ _ _ _ _ us hl => match us, hl with | [_], _ => rfl
  have b_Reading_init := F_Reading_init.binds (ps := P_Reading___init__) fun _ _ _ _ _ _ us hl => match us, hl with | [_], _ => rfl
  have b_Program_init := F_Program_init.binds (ps := P_Program___init__) fun _ _ _ _ _ _ us hl => match us, hl with | [_, _], _ => rfl
  have b_Run_init := F_Run_init.binds (ps := P_Run___init__) fun _ _ _ _ _ _ us hl => match us, hl with | [_, _, _], _ => rfl
  have b_Program___eq__ := F_Program___eq__.binds (ps := P_Program___eq__) fun _ _ _ _ _ _ us hl => match us, hl with | [_, _], _ => rfl
  have b_Program_choices := F_Program_choices.binds (ps := P_Program_choices) fun _ _ _ _ _ _ us hl => match us, hl with | [_, _], _ => rfl
  have b_Program_price := F_Program_price.binds (ps := P_Program_price) fun _ _ _ _ _ _ us hl => match us, hl with | [_, _, _], _ => rfl
  have b_Program_begin := F_Program_begin.binds (ps := P_Program_begin) fun _ _ _ _ _ _ us hl => match us, hl with | [_, _], _ => rfl
  have b_Program_item := F_Program_item.binds (ps := P_Program_item) fun _ _ _ _ _ _ us hl => match us, hl with | [_, _, _], _ => rfl
  have b_Run___len__ := F_Run___len__.binds (ps := P_Run___len__) fun _ _ _ _ _ _ us hl => match us, hl with | [_], _ => rfl
  have b_Run___eq__ := F_Run___eq__.binds (ps := P_Run___eq__) fun _ _ _ _ _ _ us hl => match us, hl with | [_, _], _ => rfl
  have b_Run_last := F_Run_last.binds (ps := P_Run_last) fun _ _ _ _ _ _ us hl => match us, hl with | [_, _, _], _ => rfl
  have b_Run_next := F_Run_next.binds (ps := P_Run_next) fun _ _ _ _ _ _ us hl => match us, hl with | [_, _, _], _ => rfl
  have b_Run_need := F_Run_need.binds (ps := P_Run_need) fun _ _ _ _ _ _ us hl => match us, hl with | [_, _], _ => rfl
  have kb_Run_last := kb2 (ks := ["index", "mode"]) (ps := P_Run_last) F_Run_last (fun _ _ _ _ _ _ _ _ _ => rfl) rfl
  have kb_Run_next := kb2 (ks := ["index", "mode"]) (ps := P_Run_next) F_Run_next (fun _ _ _ _ _ _ _ _ _ => rfl) rfl
  have kb_Program_item := kb2 (ks := ["line", "mode"]) (ps := P_Program_item) F_Program_item (fun _ _ _ _ _ _ _ _ _ => rfl) rfl
  have kb_Run_need := kb1 (ks := ["mode"]) (ps := P_Run_need) F_Run_need (fun _ _ _ _ _ _ _ _ => rfl) rfl
  have kb_Program_choices := kb1 (ks := ["mode"]) (ps := P_Program_choices) F_Program_choices (fun _ _ _ _ _ _ _ _ => rfl) rfl
  have kb_Program_price := kb2 (ks := ["value", "mode"]) (ps := P_Program_price) F_Program_price (fun _ _ _ _ _ _ _ _ _ => rfl) rfl
  have kb_Program_begin := kb1 (ks := ["mode"]) (ps := P_Program_begin) F_Program_begin (fun _ _ _ _ _ _ _ _ => rfl) rfl
  have kb_shortest := kb0 (ks := ["program"]) (ps := P_Run_shortest) F_Run_shortest (fun _ _ _ _ _ _ _ => rfl) rfl
  have kn_Program := kn1 (ks := ["text"]) (ps := P_Program___init__) F_Program_init (fun _ _ _ _ _ _ _ _ => rfl) rfl
  have kn_Run := kn2 (ks := ["lines", "program"]) (ps := P_Run___init__) F_Run_init (fun _ _ _ _ _ _ _ _ _ => rfl) rfl
  have TP : PenTxt mg := ⟨z_len, z_int, z_list⟩
  have TRow : RowTxt mg := ⟨z_range, z_str⟩
  have TW : WordTxt K mg (fun i => ([t_LETTERS, t_DIGITS, t_LONGEST_NAME, t_MOST_PRICE, t_MOST_DIGITS, t_MOST_CHARACTERS, t_MOST_LINES, t_MOST_MODES, t_MOST_VALUES, t_MOST_PROCEDURES, t_MOST_BLOCKS, t_MOST_ITEMS] : List Tok).getD i 0) kw := ⟨z_len, z_int, PySem.W.mg_of X G a_KEYWORDS, PySem.W.mg_of X G a_LETTERS, PySem.W.mg_of X G a_DIGITS, PySem.W.mg_of X G a_LONGEST_NAME, PySem.W.mg_of X G a_MOST_PRICE, PySem.W.mg_of X G a_MOST_DIGITS, fun H => kw_of kwb H⟩
  have TRd : RdTxt K CRd := ⟨cl_Reading, na_Reading⟩
  have TR : ReadTxt K mg (fun i => ([t_LETTERS, t_DIGITS, t_LONGEST_NAME, t_MOST_PRICE, t_MOST_DIGITS, t_MOST_CHARACTERS, t_MOST_LINES, t_MOST_MODES, t_MOST_VALUES, t_MOST_PROCEDURES, t_MOST_BLOCKS, t_MOST_ITEMS] : List Tok).getD i 0) CRd := ⟨z_len, z_zip, z_int, z_list, z_reversed, z_enumerate, PySem.W.mg_of X G a_MOST_CHARACTERS, PySem.W.mg_of X G a_MOST_LINES, PySem.W.mg_of X G a_MOST_MODES, PySem.W.mg_of X G a_MOST_VALUES, PySem.W.mg_of X G a_MOST_PROCEDURES, PySem.W.mg_of X G a_MOST_BLOCKS, PySem.W.mg_of X G a_MOST_ITEMS, TRd⟩
  have TT : TextTxt l.prog K mg (fun i => ([t_LETTERS, t_DIGITS, t_LONGEST_NAME, t_MOST_PRICE, t_MOST_DIGITS, t_MOST_CHARACTERS, t_MOST_LINES, t_MOST_MODES, t_MOST_VALUES, t_MOST_PROCEDURES, t_MOST_BLOCKS, t_MOST_ITEMS] : List Tok).getD i 0) CRd CB CT := { toReadTxt := TR, e_BadText := e_BadText, e_TooMany := e_TooMany }
  have Tpg : PrgTxt K CP := ⟨cl_Program, na_Program⟩
  have Trn : RunCls K CR := ⟨cl_Run, na_Run⟩
  have TM : ModeTxt l.prog K mg CP CM := ⟨Tpg, e_BadMode⟩
  have TS : ShortTxt l.prog K mg CP CM CN CR CO := { pg := Tpg, e_BadMode := e_BadMode, b_list := z_list, b_reversed := z_reversed, b_tuple := z_tuple, b_len := z_len, b_enumerate := z_enumerate, e_NotRun := e_NotRun, rn := Trn, b_min := z_min, b_int := z_int, e_NoRun := e_NoRun }
  have TE : EqTxt K mg CP CR := ⟨z_isinstance, PySem.W.mg_of X G a_Program, PySem.W.mg_of X G a_Run, fun C hC => hC.elim (fun e => e ▸ ⟨kcP, moP⟩) (fun e => e ▸ ⟨kcR, moR⟩), k1, k2⟩
  obtain ⟨mcR, crd, smt⟩ := smet
  obtain ⟨_, _, _, _, _, _, _, _, _, elaw, _, _⟩ := F_law.ex
  refine ⟨fdlaw, fun s v => by rw [elaw]; exact .of_eq rfl, fun base _ _ => ?_⟩
  have c__law_pen : Cal l.prog w K mg base 1 "_law_pen" (sp_pen K) := ⟨_, _, _, fn_cx (ok_pen F__law_pen TP), PySem.W.mg_of X G a__law_pen, F__law_pen.kp, b__law_pen⟩
  have c__law_draw : Cal l.prog w K mg base 1 "_law_draw" sp_draw := ⟨_, _, _, fn_cx (ok_draw F__law_draw TP), PySem.W.mg_of X G a__law_draw, F__law_draw.kp, b__law_draw⟩
  have c__law_pick : Cal l.prog w K mg base 2 "_law_pick" sp_pickS := ⟨_, _, _, ok_pickS F__law_pick TP c__law_draw, PySem.W.mg_of X G a__law_pick, F__law_pick.kp, b__law_pick⟩
  have c__law_rows : Cal l.prog w K mg base 3 "_law_rows" sp_rows := ⟨_, _, _, ok_rows F__law_rows TRow c__law_draw c__law_pick, PySem.W.mg_of X G a__law_rows, F__law_rows.kp, b__law_rows⟩
  have c_words_of : Cal l.prog w K mg base 1 "words_of" sp_words_of := ⟨_, _, _, fn_cx (ok_words_of F_words_of), PySem.W.mg_of X G a_words_of, F_words_of.kp, b_words_of⟩
  have c_is_made_of : Cal l.prog w K mg base 1 "is_made_of" sp_is_made_of := ⟨_, _, _, fn_cx (ok_is_made_of F_is_made_of), PySem.W.mg_of X G a_is_made_of, F_is_made_of.kp, b_is_made_of⟩
  have c_is_name : Cal l.prog w K mg base 2 "is_name" sp_is_name := ⟨_, _, _, fn_cx (ok_is_name F_is_name TW c_is_made_of), PySem.W.mg_of X G a_is_name, F_is_name.kp, b_is_name⟩
  have c_is_price : Cal l.prog w K mg base 2 "is_price" sp_is_price := ⟨_, _, _, fn_cx (ok_is_price F_is_price TW c_is_made_of), PySem.W.mg_of X G a_is_price, F_is_price.kp, b_is_price⟩
  have c_item_of : Cal l.prog w K mg base 3 "item_of" sp_item_of := ⟨_, _, _, fn_cx (ok_item_of F_item_of TW c_is_name), PySem.W.mg_of X G a_item_of, F_item_of.kp, b_item_of⟩
  have c_read_start : Cal l.prog w K mg base 1 "read_start" (sp_read_start K CRd) := ⟨_, _, _, fn_cx (ok_read_start F_read_start TR), PySem.W.mg_of X G a_read_start, F_read_start.kp, b_read_start⟩
  have c_read_proc : Cal l.prog w K mg base 3 "read_proc" (sp_read_proc K CRd) := ⟨_, _, _, fn_cx (ok_read_proc F_read_proc TR c_is_name), PySem.W.mg_of X G a_read_proc, F_read_proc.kp, b_read_proc⟩
  have c_read_end : Cal l.prog w K mg base 1 "read_end" (sp_read_end CRd) := ⟨_, _, _, fn_cx (ok_read_end F_read_end TR), PySem.W.mg_of X G a_read_end, F_read_end.kp, b_read_end⟩
  have c_read_block : Cal l.prog w K mg base 1 "read_block" (sp_read_block CRd) := ⟨_, _, _, fn_cx (ok_read_block F_read_block TR), PySem.W.mg_of X G a_read_block, F_read_block.kp, b_read_block⟩
  have c_read_or : Cal l.prog w K mg base 1 "read_or" (sp_read_or CRd) := ⟨_, _, _, fn_cx (ok_read_or F_read_or TR), PySem.W.mg_of X G a_read_or, F_read_or.kp, b_read_or⟩
  have c_read_leave : Cal l.prog w K mg base 1 "read_leave" (sp_read_leave CRd) := ⟨_, _, _, fn_cx (ok_read_leave F_read_leave TR), PySem.W.mg_of X G a_read_leave, F_read_leave.kp, b_read_leave⟩
  have c_read_do : Cal l.prog w K mg base 4 "read_do" (sp_read_do K CRd) := ⟨_, _, _, fn_cx (ok_read_do F_read_do TR c_is_name c_item_of), PySem.W.mg_of X G a_read_do, F_read_do.kp, b_read_do⟩
  have c_read_mode : Cal l.prog w K mg base 3 "read_mode" (sp_read_mode K CRd) := ⟨_, _, _, fn_cx (ok_read_mode F_read_mode TR c_is_name c_is_price), PySem.W.mg_of X G a_read_mode, F_read_mode.kp, b_read_mode⟩
  have c_read_inside : Cal l.prog w K mg base 5 "read_inside" (sp_read_inside K CRd) := ⟨_, _, _, fn_cx (ok_read_inside F_read_inside TR c_is_name c_read_do c_read_end c_read_or c_read_leave c_read_block), PySem.W.mg_of X G a_read_inside, F_read_inside.kp, b_read_inside⟩
  have c_read_line : Cal l.prog w K mg base 6 "read_line" (sp_read_line K CRd) := ⟨_, _, _, fn_cx (ok_read_line F_read_line TR c_read_mode c_read_start c_read_proc c_read_inside), PySem.W.mg_of X G a_read_line, F_read_line.kp, b_read_line⟩
  have c_Reading : CalM l.prog w K mg base 1 "Reading" CRd (sp_init CRd) := ⟨_, _, _, mk_Reading, fn_cx (ok_init F_Reading_init TRd), PySem.W.mg_of X G a_Reading, b_Reading_init⟩
  have c_read_text : Cal l.prog w K mg base 7 "read_text" (sp_read_text CRd CB CT) := ⟨_, _, _, ok_read_text F_read_text TT c_words_of c_read_line c_Reading, PySem.W.mg_of X G a_read_text, F_read_text.kp, b_read_text⟩
  have o_Program := ok_pinit (P := l.prog) (w := w) (mg := mg) (base := base) F_Program_init ⟨TRd, Tpg, z_tuple, z_zip⟩ c_read_text
  have c_Program : CalM l.prog w K mg base 8 "Program" CP (sp_pinit CP CB CT) := ⟨_, _, _, mk_Program, o_Program, PySem.W.mg_of X G a_Program, b_Program_init⟩
  have c_check_mode : Cal l.prog w K mg base 3 "check_mode" (sp_check_mode CP CM) := ⟨_, _, _, ok_check_mode F_check_mode TM, PySem.W.mg_of X G a_check_mode, F_check_mode.kp, b_check_mode⟩
  have c_prices_of : Cal l.prog w K mg base 4 "prices_of" (sp_prices_of CP CM) := ⟨_, _, _, ok_prices_of F_prices_of TM c_check_mode, PySem.W.mg_of X G a_prices_of, F_prices_of.kp, b_prices_of⟩
  have c_item_at : Cal l.prog w K mg base 1 "item_at" (sp_item_at CP) := ⟨_, _, _, fn_cx (ok_item_at F_item_at TM), PySem.W.mg_of X G a_item_at, F_item_at.kp, b_item_at⟩
  have c_step_lines : Cal l.prog w K mg base 1 "step_lines" (sp_step CP) := ⟨_, _, _, fn_cx (ok_step_lines F_step_lines TM), PySem.W.mg_of X G a_step_lines, F_step_lines.kp, b_step_lines⟩
  have c_following_lines : Cal l.prog w K mg base 2 "following_lines" (sp_foll K CP) := ⟨_, _, _, ok_following_lines F_following_lines TM z_len c_step_lines, PySem.W.mg_of X G a_following_lines, F_following_lines.kp, b_following_lines⟩
  have c_walked_calls : Cal l.prog w K mg base 3 "walked_calls" (sp_walked K CP CN) := ⟨_, _, _, ok_walked_calls F_walked_calls TS.toRunTxt c_following_lines, PySem.W.mg_of X G a_walked_calls, F_walked_calls.kp, b_walked_calls⟩
  have c_last_value : Cal l.prog w K mg base 2 "last_value" (sp_last_value K CP) := ⟨_, _, _, fn_cx (ok_last_value F_last_value TS.toWalkTxt c_item_at), PySem.W.mg_of X G a_last_value, F_last_value.kp, b_last_value⟩
  have c_need_of : Cal l.prog w K mg base 2 "need_of" (sp_need_of K CP) := ⟨_, _, _, fn_cx (ok_need_of F_need_of TS.toWalkTxt c_item_at), PySem.W.mg_of X G a_need_of, F_need_of.kp, b_need_of⟩
  have o_Run := ok_rinit (P := l.prog) (w := w) (mg := mg) (base := base) F_Run_init TS.toRunT2 c_walked_calls c_following_lines
  have c_Run : CalM l.prog w K mg base 4 "Run" CR (sp_rinit K CP CN CR) := ⟨_, _, _, mk_Run, o_Run, PySem.W.mg_of X G a_Run, b_Run_init⟩
  have c_sum_of : Cal l.prog w K mg base 1 "sum_of" (sp_sum K) := ⟨_, _, _, fn_cx (ok_sum_of F_sum_of), PySem.W.mg_of X G a_sum_of, F_sum_of.kp, b_sum_of⟩
  have c_least_of : Cal l.prog w K mg base 1 "least_of" (sp_least K) := ⟨_, _, _, fn_cx (ok_least_of F_least_of TS), PySem.W.mg_of X G a_least_of, F_least_of.kp, b_least_of⟩
  have c_return_length : Cal l.prog w K mg base 2 "return_length" (sp_ret CP) := ⟨_, _, _, ok_return_length F_return_length TS c_step_lines c_sum_of c_least_of, PySem.W.mg_of X G a_return_length, F_return_length.kp, b_return_length⟩
  have c_stop_length : Cal l.prog w K mg base 2 "stop_length" (sp_stop CP) := ⟨_, _, _, ok_stop_length F_stop_length TS c_step_lines c_sum_of c_least_of, PySem.W.mg_of X G a_stop_length, F_stop_length.kp, b_stop_length⟩
  have c_shortest_tables : Cal l.prog w K mg base 3 "shortest_tables" (sp_tabs CP) := ⟨_, _, _, ok_shortest_tables F_shortest_tables TS c_return_length c_stop_length, PySem.W.mg_of X G a_shortest_tables, F_shortest_tables.kp, b_shortest_tables⟩
  have c_shortest_step : Cal l.prog w K mg base 2 "shortest_step" (sp_sstep CP) := ⟨_, _, _, ok_shortest_step F_shortest_step TS c_step_lines, PySem.W.mg_of X G a_shortest_step, F_shortest_step.kp, b_shortest_step⟩
  have c_shortest_lines : Cal l.prog w K mg base 4 "shortest_lines" (sp_slines CP) := ⟨_, _, _, ok_shortest_lines F_shortest_lines TS c_shortest_tables c_shortest_step c_least_of, PySem.W.mg_of X G a_shortest_lines, F_shortest_lines.kp, b_shortest_lines⟩
  have o_peq := ok_peq (P := l.prog) (w := w) (mg := mg) (base := base) F_Program___eq__ TE Tpg
  have o_req := ok_req (P := l.prog) (w := w) (mg := mg) (base := base) F_Run___eq__ TE Tpg Trn o_peq i_Program___eq__ n_Program___eq__ b_Program___eq__
  have o_Run_last := ok_last (P := l.prog) (w := w) (mg := mg) (base := base) F_Run_last TS.toRunT2 c_check_mode c_last_value
  have me_Run_last : Meth K CR "last" f_Run_last := ⟨i_Run_last, n_Run_last, F_Run_last.kp⟩
  have o_Run_next := ok_next (P := l.prog) (w := w) (mg := mg) (base := base) F_Run_next TS.toRunT2 c_check_mode c_item_at
  have me_Run_next : Meth K CR "next" f_Run_next := ⟨i_Run_next, n_Run_next, F_Run_next.kp⟩
  have o_Run_need := ok_need (P := l.prog) (w := w) (mg := mg) (base := base) F_Run_need TS.toRunT2 c_check_mode c_need_of
  have me_Run_need : Meth K CR "need" f_Run_need := ⟨i_Run_need, n_Run_need, F_Run_need.kp⟩
  have o_Program_item := ok_item (P := l.prog) (w := w) (mg := mg) (base := base) F_Program_item TM c_check_mode c_item_at
  have me_Program_item : Meth K CP "item" f_Program_item := ⟨i_Program_item, n_Program_item, F_Program_item.kp⟩
  have o_Program_choices := ok_choices (P := l.prog) (w := w) (mg := mg) (base := base) F_Program_choices TS.toTupTxt c_prices_of
  have me_Program_choices : Meth K CP "choices" f_Program_choices := ⟨i_Program_choices, n_Program_choices, F_Program_choices.kp⟩
  have o_Program_price := ok_price (P := l.prog) (w := w) (mg := mg) (base := base) F_Program_price TM c_prices_of
  have me_Program_price : Meth K CP "price" f_Program_price := ⟨i_Program_price, n_Program_price, F_Program_price.kp⟩
  have o_Program_begin := ok_begin (P := l.prog) (w := w) (mg := mg) (base := base) F_Program_begin TM c_check_mode
  have me_Program_begin : Meth K CP "begin" f_Program_begin := ⟨i_Program_begin, n_Program_begin, F_Program_begin.kp⟩
  have o_len := ok_len (P := l.prog) (w := w) (mg := mg) (base := base) F_Run___len__ TS.toRunT2
  have o_short := ok_shortest (P := l.prog) (w := w) (mg := mg) (base := base) F_Run_shortest TS c_shortest_lines c_Run
  exact ok_law F_law (CO := CO) { pg := Tpg, rn := Trn, b_len := z_len, b_range := z_range, b_list := z_list, b_tuple := z_tuple, g_Run := PySem.W.mg_of X G a_Run, c__law_pen := c__law_pen, c__law_rows := c__law_rows, k_Program := ⟨_, _, _, _, mk_Program, o_Program, PySem.W.mg_of X G a_Program, kn_Program⟩, c_Program := c_Program, k_Run := ⟨_, _, _, _, mk_Run, o_Run, PySem.W.mg_of X G a_Run, kn_Run⟩, c_Run := c_Run, c_eq_Run := ⟨_, _, _, o_req, i_Run___eq__, n_Run___eq__, b_Run___eq__⟩, c_eq_Program := ⟨_, _, _, o_peq, i_Program___eq__, n_Program___eq__, b_Program___eq__⟩, s_Run_shortest := ⟨mcR, pS, f_Run_shortest, _, _, _, crd, smt, o_short, kb_shortest⟩, c_len_Run := ⟨_, _, _, ⟨i_Run___len__, n_Run___len__⟩, fn_cx o_len, b_Run___len__⟩, k_Run_last := ⟨_, _, _, _, cl_Run, me_Run_last, o_Run_last, kb_Run_last⟩, c_Run_last := ⟨_, _, _, cl_Run, me_Run_last, o_Run_last, b_Run_last⟩, k_Run_next := ⟨_, _, _, _, cl_Run, me_Run_next, o_Run_next, kb_Run_next⟩, c_Run_next := ⟨_, _, _, cl_Run, me_Run_next, o_Run_next, b_Run_next⟩, k_Run_need := ⟨_, _, _, _, cl_Run, me_Run_need, o_Run_need, kb_Run_need⟩, c_Run_need := ⟨_, _, _, cl_Run, me_Run_need, o_Run_need, b_Run_need⟩, k_Program_item := ⟨_, _, _, _, cl_Program, me_Program_item, o_Program_item, kb_Program_item⟩, c_Program_item := ⟨_, _, _, cl_Program, me_Program_item, o_Program_item, b_Program_item⟩, k_Program_choices := ⟨_, _, _, _, cl_Program, me_Program_choices, o_Program_choices, kb_Program_choices⟩, c_Program_choices := ⟨_, _, _, cl_Program, me_Program_choices, o_Program_choices, b_Program_choices⟩, k_Program_price := ⟨_, _, _, _, cl_Program, me_Program_price, o_Program_price, kb_Program_price⟩, c_Program_price := ⟨_, _, _, cl_Program, me_Program_price, o_Program_price, b_Program_price⟩, k_Program_begin := ⟨_, _, _, _, cl_Program, me_Program_begin, o_Program_begin, kb_Program_begin⟩, c_Program_begin := ⟨_, _, _, cl_Program, me_Program_begin, o_Program_begin, b_Program_begin⟩ }
theorem walk {l : PySem.W.OpenLaw} {q : Program} {loose : List Str} {XP : (Str → Option Value) → Heap → Prop} {YP : World → Heap → Prop} {d : DefRec} {K : Params → PySem.W.Frag} (hn : l.most = some 63) (hdf : d.params.defaults = [])
    (hY : ∀ (w : World) (h : Heap), YP w h → (K w.params).In h)
    (F : ∀ (w : World) (mg : Str → Option Value) (fa : Addr) (h : Heap), (K w.params).In h → h.Ns mainGlobals mg → mg d.name = some (.ref fa) →
      ∃ fd : FuncData, (∀ (s : Shared) (u : Value), BindsTo s fd ⟨[u], []⟩ [("_law_script", u)]) ∧ ∀ base : Heap, (K w.params).In base → base.Ns mainGlobals mg → FnOk l.prog w (K w.params) mg base CX0 10 fa fd P_law (sp_law (K w.params))) :
    PySem.W.WalkO q loose XP YP l.row.toRowW d [] (fun f vs => PySem.call f vs) :=
  L2.walk_of (n := 63) (k := 10) (x := "_law_script") (CX := fun _ => CX0) (sp := fun w => sp_law (K w.params)) hn (by decide) hdf ⟨rfl, by decide, by decide⟩ hY F (fun _ _ a ns hl _ hS => ⟨a, ns, rfl, hS, hl, fun _ => rfl⟩) fun _ _ _ _ _ z => z
end MP
end
section
open PySem L2 MPX MP
local macro_rules | `(tactic| walk_at "rd1") => `(tactic| first
  | with_reducible refine x_seq ?_
  | with_reducible refine x_next ?_
  | with_reducible refine x_ret ?_
  | with_reducible refine x_retN ?_
  | with_reducible refine x_ifs ?_
  | with_reducible refine x_asg ?_
  | with_reducible refine x_drop ?_
  | with_reducible refine x_name ?_
  | ((with_reducible refine' x_var ?vv ?_); (case vv => exact rfl))
  | with_reducible refine x_c ?_
  | with_reducible refine x_op ?_
  | with_reducible refine x_un ?_
  | with_reducible refine x_test ?_
  | with_reducible refine x_tB ?_
  | with_reducible refine x_and ?_
  | with_reducible refine x_or ?_
  | with_reducible refine x_not ?_
  | with_reducible refine x_andV ?_
  | with_reducible refine x_orV ?_
  | with_reducible refine x_notV ?_
  | with_reducible refine x_if ?_
  | with_reducible refine x_nil ?_
  | with_reducible refine x_cons ?_
  | with_reducible refine x_tup ?_
  | with_reducible refine x_lst ?_
  | with_reducible refine x_cb ?_
  | with_reducible refine x_call ?_
  | with_reducible refine x_callS ?_
  | with_reducible refine x_callP ?_
  | with_reducible refine x_mk0 ?_
  | with_reducible refine x_mk1 ?_
  | with_reducible refine x_mk2 ?_
  | with_reducible refine x_make ?_
  | with_reducible refine x_sfld ?_
  | with_reducible refine x_m0 ?_
  | with_reducible refine x_m1 ?_
  | with_reducible refine x_bm0 ?_
  | with_reducible refine x_bm ?_
  | with_reducible refine x_par ?_
  | with_reducible refine x_ilist ?_
  | with_reducible refine x_itup ?_
  | with_reducible refine x_istr ?_
  | ((with_reducible show tLc _ _ _ _ _ _ _ _); unfold tLc)
  | ((with_reducible show tFor _ _ _ _ _ _); unfold tFor)
  | ((with_reducible refine' x_eq ?vv ?_); (case vv => exact rfl))
  | ((with_reducible refine' x_ne ?vv ?_); (case vv => exact rfl))
  | with_reducible refine x_rI0 ?_
  | with_reducible refine x_dget ?_
  | with_reducible refine x_dput ?_
  | with_reducible refine x_dnew ?_
  | with_reducible refine x_dget1 ?_
  | with_reducible refine x_dget2 ?_
  | with_reducible refine x_sl ?_
  | with_reducible refine x_nopart ?_
  | with_reducible refine x_part ?_
  | ((with_reducible refine' x_slL ?vv ?_); (case vv => (with_reducible assumption)))
  | with_reducible refine x_disp ?_
  | with_reducible refine x_pcons ?_
  | with_reducible refine x_pnil ?_
  | ((with_reducible refine' x_mod ?vv ?_); (case vv => omega); intro r er hr0 hr1; (try clear er))
  | ((with_reducible refine' x_rI ?vv ?_); (case vv => walk_at "sc"))
  | (with_reducible refine Or.inl (Exists.intro _ (And.intro rfl ?_)))
  | with_reducible refine x_T ?_
  | with_reducible refine x_F ?_
  | ((with_reducible show Exists (α := V) _); (with_reducible apply Exists.intro))
  | ((with_reducible show Exists (α := Bool) _); (with_reducible apply Exists.intro))
  | ((with_reducible show Exists (α := Nat) _); (with_reducible apply Exists.intro))
  | ((with_reducible show Exists (α := Int) _); (with_reducible apply Exists.intro))
  | ((with_reducible show Exists (α := List V) _); (with_reducible apply Exists.intro))
  | ((with_reducible show Exists (α := PySem.Str) _); (with_reducible apply Exists.intro))
  | ((with_reducible show Exists (α := Option V) _); (with_reducible apply Exists.intro))
  | ((with_reducible show Exists (α := Option Int) _); (with_reducible apply Exists.intro))
  | ((with_reducible show Exists (α := List (Key × V)) _); (with_reducible apply Exists.intro))
  | refine And.intro rfl ?_
  | ((with_reducible refine And.intro ?vv ?_); (case vv => (first | (with_reducible assumption) | (show _ ≤ sizeLine; decide) | exact len_ok rfl)))
  | (refine And.intro (Exists.intro _ rfl) ?_))
local macro_rules | `(tactic| walk_at "sc") => `(tactic| first
  | (with_reducible assumption)
  | exact divW (by omega) (by omega)
  | exact mulW (by omega) (by omega)
  | exact Or.inl ⟨by omega, by omega⟩
  | exact Or.inr ⟨by omega, by omega⟩
  | (show (_ : Int) ≠ 0; omega)
  | exact ⟨by decide, by decide, by decide⟩
  | decide)
local macro_rules | `(tactic| walk_at "rd") => `(tactic| repeat walk_at "rd1")
open PySem PySem.W PyProof.Rows
local macro_rules | `(tactic| walk_at "sup") => `(tactic| (refine' MPX.supC_mk ?eB ?xL ?bV ?iC ?tI ?top ?lF ?cF ?lC ?v2 ?mf ?lc ?a1 ?a2 ?bd ?n1 ?n2 ?n3 ?n4 ?co ?ge ?ki; (case iC => k_is); (case xL => k_is); (case bV => kernel_rfl); (case tI => k_is); (case lF => k_is); (case cF => k_is); (case lC => k_is); (case v2 => rfl); (case lc => k_is); (case a1 => rfl); (case a2 => rfl); (case mf => kernel_rfl); (case top => kernel_rfl); (case n1 => rfl); (case n2 => rfl); (case n3 => decide +kernel); (case n4 => decide +kernel); (case co => rfl); (case ge => rfl); (case ki => rfl); (case eB => kernel_rfl)))
local macro_rules | `(tactic| walk_at "fun") => `(tactic| (refine' ⟨_, L2.fun_mk ?l ?c ?k⟩; (case l => k_is); (case c => k_is); (case k => k_is)))
theorem PySem.Challenge.cw_modeplaces_k14_arguments_by_name_holds : PySem.Challenge.rw_modeplaces_k14_arguments_by_name.Holds := by
  w_on; o_law; k_head; (case hw => w_witness2)
  k_fill
  refine MP.walk (l := PySem.Challenge.rw_modeplaces_k14_arguments_by_name) rfl rfl (fun w h Y => PySem.W.kIn_of Y) ?F
  case F =>
    intro w mg fa h KX G hmg
    refine' MP.all_mk KX G hmg ?a__law_pen ?F__law_pen ?a__law_draw ?F__law_draw ?a__law_pick ?F__law_pick ?a__law_rows ?F__law_rows ?a_words_of ?F_words_of ?a_is_made_of ?F_is_made_of ?a_is_name ?F_is_name ?a_is_price ?F_is_price ?a_item_of ?F_item_of ?a_read_start ?F_read_start ?a_read_proc ?F_read_proc ?a_read_end ?F_read_end ?a_read_block ?F_read_block ?a_read_or ?F_read_or ?a_read_leave ?F_read_leave ?a_read_do ?F_read_do ?a_read_mode ?F_read_mode ?a_read_inside ?F_read_inside ?a_read_line ?F_read_line ?a_read_text ?F_read_text ?a_check_mode ?F_check_mode ?a_prices_of ?F_prices_of ?a_item_at ?F_item_at ?a_step_lines ?F_step_lines ?a_following_lines ?F_following_lines ?a_walked_calls ?F_walked_calls ?a_last_value ?F_last_value ?a_need_of ?F_need_of ?a_sum_of ?F_sum_of ?a_least_of ?F_least_of ?a_return_length ?F_return_length ?a_stop_length ?F_stop_length ?a_shortest_tables ?F_shortest_tables ?a_shortest_step ?F_shortest_step ?a_shortest_lines ?F_shortest_lines ?a_law ?F_law ?a_Reading ?i_Reading ?F_Reading_init ?c_Reading ?s_Reading ?a_Program ?i_Program ?F_Program_init ?c_Program ?s_Program ?a_Run ?i_Run ?F_Run_init ?c_Run ?s_Run ?i_Program___eq__ ?F_Program___eq__ ?n_Program___eq__ ?i_Program_choices ?F_Program_choices ?n_Program_choices ?i_Program_price ?F_Program_price ?n_Program_price ?i_Program_begin ?F_Program_begin ?n_Program_begin ?i_Program_item ?F_Program_item ?n_Program_item ?i_Run___len__ ?F_Run___len__ ?n_Run___len__ ?i_Run___eq__ ?F_Run___eq__ ?n_Run___eq__ ?i_Run_last ?F_Run_last ?n_Run_last ?i_Run_next ?F_Run_next ?n_Run_next ?i_Run_need ?F_Run_need ?n_Run_need ?smet ?F_Run_shortest ?e_BadText ?e_TooMany ?e_NotRun ?e_NoRun ?e_BadMode ?y_len ?y_int ?y_list ?y_tuple ?y_zip ?y_reversed ?y_enumerate ?y_range ?y_str ?y_min ?y_isinstance ?a_KEYWORDS ?kwb ?a_LETTERS ?a_DIGITS ?a_LONGEST_NAME ?a_MOST_PRICE ?a_MOST_DIGITS ?a_MOST_CHARACTERS ?a_MOST_LINES ?a_MOST_MODES ?a_MOST_VALUES ?a_MOST_PROCEDURES ?a_MOST_BLOCKS ?a_MOST_ITEMS ?kcP ?kcR ?moP ?moR ?k1 ?k2
    (case a__law_pen => k_is)
    (case F__law_pen => walk_at "fun")
    (case a__law_draw => k_is)
    (case F__law_draw => walk_at "fun")
    (case a__law_pick => k_is)
    (case F__law_pick => walk_at "fun")
    (case a__law_rows => k_is)
    (case F__law_rows => walk_at "fun")
    (case a_words_of => k_is)
    (case F_words_of => walk_at "fun")
    (case a_is_made_of => k_is)
    (case F_is_made_of => walk_at "fun")
    (case a_is_name => k_is)
    (case F_is_name => walk_at "fun")
    (case a_is_price => k_is)
    (case F_is_price => walk_at "fun")
    (case a_item_of => k_is)
    (case F_item_of => walk_at "fun")
    (case a_read_start => k_is)
    (case F_read_start => walk_at "fun")
    (case a_read_proc => k_is)
    (case F_read_proc => walk_at "fun")
    (case a_read_end => k_is)
    (case F_read_end => walk_at "fun")
    (case a_read_block => k_is)
    (case F_read_block => walk_at "fun")
    (case a_read_or => k_is)
    (case F_read_or => walk_at "fun")
    (case a_read_leave => k_is)
    (case F_read_leave => walk_at "fun")
    (case a_read_do => k_is)
    (case F_read_do => walk_at "fun")
    (case a_read_mode => k_is)
    (case F_read_mode => walk_at "fun")
    (case a_read_inside => k_is)
    (case F_read_inside => walk_at "fun")
    (case a_read_line => k_is)
    (case F_read_line => walk_at "fun")
    (case a_read_text => k_is)
    (case F_read_text => walk_at "fun")
    (case a_check_mode => k_is)
    (case F_check_mode => walk_at "fun")
    (case a_prices_of => k_is)
    (case F_prices_of => walk_at "fun")
    (case a_item_at => k_is)
    (case F_item_at => walk_at "fun")
    (case a_step_lines => k_is)
    (case F_step_lines => walk_at "fun")
    (case a_following_lines => k_is)
    (case F_following_lines => walk_at "fun")
    (case a_walked_calls => k_is)
    (case F_walked_calls => walk_at "fun")
    (case a_last_value => k_is)
    (case F_last_value => walk_at "fun")
    (case a_need_of => k_is)
    (case F_need_of => walk_at "fun")
    (case a_sum_of => k_is)
    (case F_sum_of => walk_at "fun")
    (case a_least_of => k_is)
    (case F_least_of => walk_at "fun")
    (case a_return_length => k_is)
    (case F_return_length => walk_at "fun")
    (case a_stop_length => k_is)
    (case F_stop_length => walk_at "fun")
    (case a_shortest_tables => k_is)
    (case F_shortest_tables => walk_at "fun")
    (case a_shortest_step => k_is)
    (case F_shortest_step => walk_at "fun")
    (case a_shortest_lines => k_is)
    (case F_shortest_lines => walk_at "fun")
    (case a_law => k_is)
    (case F_law => walk_at "fun")
    (case a_Reading => k_is)
    (case i_Reading => k_is)
    (case F_Reading_init => walk_at "fun")
    (case c_Reading => kernel_rfl)
    (case s_Reading => k_is)
    (case a_Program => k_is)
    (case i_Program => k_is)
    (case F_Program_init => walk_at "fun")
    (case c_Program => kernel_rfl)
    (case s_Program => k_is)
    (case a_Run => k_is)
    (case i_Run => k_is)
    (case F_Run_init => walk_at "fun")
    (case c_Run => kernel_rfl)
    (case s_Run => k_is)
    (case i_Program___eq__ => k_is)
    (case F_Program___eq__ => walk_at "fun")
    (case n_Program___eq__ => k_is)
    (case i_Program_choices => k_is)
    (case F_Program_choices => walk_at "fun")
    (case n_Program_choices => k_is)
    (case i_Program_price => k_is)
    (case F_Program_price => walk_at "fun")
    (case n_Program_price => k_is)
    (case i_Program_begin => k_is)
    (case F_Program_begin => walk_at "fun")
    (case n_Program_begin => k_is)
    (case i_Program_item => k_is)
    (case F_Program_item => walk_at "fun")
    (case n_Program_item => k_is)
    (case i_Run___len__ => k_is)
    (case F_Run___len__ => walk_at "fun")
    (case n_Run___len__ => k_is)
    (case i_Run___eq__ => k_is)
    (case F_Run___eq__ => walk_at "fun")
    (case n_Run___eq__ => k_is)
    (case i_Run_last => k_is)
    (case F_Run_last => walk_at "fun")
    (case n_Run_last => k_is)
    (case i_Run_next => k_is)
    (case F_Run_next => walk_at "fun")
    (case n_Run_next => k_is)
    (case i_Run_need => k_is)
    (case F_Run_need => walk_at "fun")
    (case n_Run_need => k_is)
    (case smet => refine' ⟨.type "type", ⟨?rd, ?ga⟩, ⟨?mm, ⟨_, ?rc⟩, ?kp⟩⟩; (case mm => k_is); (case rd => k_is); (case ga => k_is); (case rc => rfl); (case kp => k_is))
    (case F_Run_shortest => walk_at "fun")
    (case e_BadText => refine' MP.exc1_mk KX G ?aC ?su ?S ?ev ?ne ?nd ?n1; (case aC => k_is); (case su => k_is); (case S => walk_at "sup"; (case bd => exact fun us hl => match us, hl with | [_, _], _ => rfl)); (case ev => exact fun env => ⟨_, by rfl⟩); (case ne => decide +kernel); (case nd => decide +kernel); (case n1 => k_is))
    (case e_TooMany => refine' MP.exc1_mk KX G ?aC ?su ?S ?ev ?ne ?nd ?n1; (case aC => k_is); (case su => k_is); (case S => walk_at "sup"; (case bd => exact fun us hl => match us, hl with | [_, _], _ => rfl)); (case ev => exact fun env => ⟨_, by rfl⟩); (case ne => decide +kernel); (case nd => decide +kernel); (case n1 => k_is))
    (case e_NotRun => refine' MP.exc1_mk KX G ?aC ?su ?S ?ev ?ne ?nd ?n1; (case aC => k_is); (case su => k_is); (case S => walk_at "sup"; (case bd => exact fun us hl => match us, hl with | [_, _], _ => rfl)); (case ev => exact fun env => ⟨_, by rfl⟩); (case ne => decide +kernel); (case nd => decide +kernel); (case n1 => k_is))
    (case e_NoRun => refine' MP.exc0_mk KX G ?aC ?su ?S ?ev; (case aC => k_is); (case su => k_is); (case S => walk_at "sup"; (case bd => exact fun us hl => match us, hl with | [_], _ => rfl)); (case ev => exact fun env => ⟨_, by rfl⟩))
    (case e_BadMode => refine' MP.exc1_mk KX G ?aC ?su ?S ?ev ?ne ?nd ?n1; (case aC => k_is); (case su => k_is); (case S => walk_at "sup"; (case bd => exact fun us hl => match us, hl with | [_, _], _ => rfl)); (case ev => exact fun env => ⟨_, by rfl⟩); (case ne => decide +kernel); (case nd => decide +kernel); (case n1 => k_is))
    (case y_len => k_is)
    (case y_int => k_is)
    (case y_list => k_is)
    (case y_tuple => k_is)
    (case y_zip => k_is)
    (case y_reversed => k_is)
    (case y_enumerate => k_is)
    (case y_range => k_is)
    (case y_str => k_is)
    (case y_min => k_is)
    (case y_isinstance => k_is)
    (case a_KEYWORDS => k_is)
    (case kwb => kernel_rfl)
    (case a_LETTERS => exact MP.str1_of (by kernel_rfl))
    (case a_DIGITS => exact MP.str1_of (by kernel_rfl))
    (case a_LONGEST_NAME => exact MP.int1_of (by kernel_rfl))
    (case a_MOST_PRICE => exact MP.int1_of (by kernel_rfl))
    (case a_MOST_DIGITS => exact MP.int1_of (by kernel_rfl))
    (case a_MOST_CHARACTERS => exact MP.int1_of (by kernel_rfl))
    (case a_MOST_LINES => exact MP.int1_of (by kernel_rfl))
    (case a_MOST_MODES => exact MP.int1_of (by kernel_rfl))
    (case a_MOST_VALUES => exact MP.int1_of (by kernel_rfl))
    (case a_MOST_PROCEDURES => exact MP.int1_of (by kernel_rfl))
    (case a_MOST_BLOCKS => exact MP.int1_of (by kernel_rfl))
    (case a_MOST_ITEMS => exact MP.int1_of (by kernel_rfl))
    (case kcP => k_is)
    (case kcR => k_is)
    (case moP => k_is)
    (case moR => k_is)
    (case k1 => k_is)
    (case k2 => k_is)
end
