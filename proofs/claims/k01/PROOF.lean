import PyProof.Rows.All
import Wide.All
import OpenK.AllK
import Wide.FinOn
import KE.KExcSuper
import HandS.ForMost
import HandS.Exc
import HandS.ExcInit
import HandS.ExcCtx
import HandS.HotCalls
import HandS.ExcInitHot
import HandS.ExcIs
import HandS.More
import HandS.IsInst
import HandS.ExcField
import HandS.CallSlots
import HandS.TryMany
import HandS.Text
import HandS.Zip
import KE.KExcIs
import PySem.Challenge.RW_latelink_k01_rows_of_operations
set_option Elab.async false
set_option linter.all false
set_option maxRecDepth 100000
set_option maxHeartbeats 4000000
/-! own exceptions whose __init__ is: super().__init__('text'); self.f = f, .. -/
namespace LkX
open PySem PySem.W PySem.Calls PyProof.Rows PySem.HandSPX

/-- the stores: self.f = f, for the names in turn -/
inductive Stores : List Str → List Stmt → Prop
  | nil : Stores [] []
  | cons {f : Str} {fs : List Str} {ss : List Stmt} {q1 q2 q3 q4 : Pos} : Stores fs ss → Stores (f :: fs) (.Assign [.Attribute (.Name "self" q1) f q2] (.Name f q3) q4 :: ss)
/-- the whole body -/
def InitBody (fs : List Str) (body : List Stmt) : Prop := ∃ (m : Str) (j : Nat) (p0 p1 p2 p3 p4 p5 : Pos) (ss : List Stmt),
  body = .Expr (.Call (.Attribute (.Call (.Name "super" p0) [] [] p1) "__init__" p2) [.Constant (.str m) j p3] [] p4) p5 :: ss ∧ (p2.endLine == p4.line) = true ∧ Stores fs ss

/-- what the written part says of the class x at C, its __init__ at fI, its fields' names fs -/
structure ExcTxt (prog : Program) (K : Frag) (C fI : Addr) (fs : List Str) : Prop where
  cls : ∃ nm q N bs bm sn sub ab col dd k0 k1 k2 k3 k5, K.lookup C = some (excClassObj nm q C N bs bm true sn sub ab col dd k0 k1 k2 k3 k5 "ValueError.__new__") ∧ refsVE bm = true
  sa : findIn K (.ref C) "__setattr__" = some (some (.builtin "object.__setattr__"))
  noN : ∀ f ∈ fs, findIn K (.ref C) f = some none
  iC : findIn K (.ref C) "__init__" = some (some (.ref fI))
  tI : typeIn K (.ref fI) = some (.type "function")
  kC : keepIn K (.ref C) = true
  exC : subIn K (.ref C) (.type "BaseException") = some true
  tyC : typeIn K (.ref C) = some (.type "type")
  vE : subIn K (.ref C) (.type "ValueError") = some true
  su : ks_superIn K C C "__init__" = some (some (.builtin "ValueError.__init__"))
  op : nsIn K cStatics "thirdparty.any" = some none
  gs : nsIn K mainGlobals "super" = some none
  fn : ∃ (qual : Str) (params : Arguments) (body : List Stmt) (scope : Scope) (oc : Value) (od : Option Addr) (doc pm : Value) (an : Option Addr) (cda : Addr) (ct : Value) (cc : Addr) (osl : Array (Option Value)) (ccl : Value) (cdd : Option Addr) (cvs : Array Value) (ccs : Array (Option Value)) (file : Str) (tf : Tok) (cl : Value) (cld : Option Addr) (csl : Array (Option Value)) (ar : Arg),
    K.lookup fI = some ⟨oc, od, .func (ksFn "__init__" qual params body scope .none .none doc pm an (.ref cda) ct cc), osl⟩ ∧ codeIn K (.ref cda) qual = true ∧
    K.lookup cda = some ⟨ccl, cdd, .fields cvs, ccs⟩ ∧ cvs[2]? = some (.str file tf) ∧ ((prog.main.file : Str) == file) = true ∧
    K.lookup cc = some ⟨cl, cld, .cell (some (.ref C)), csl⟩ ∧ InitBody fs body ∧ (params.posonlyargs ++ params.args).head? = some ar ∧ ar.arg = "self" ∧
    (prog.main.scope.names.lookup ("super" : Str)).isSome = false ∧
    scope.names.lookup ("super" : Str) = some .globalImplicit ∧ scope.names.lookup ("__class__" : Str) = some .free ∧ (∀ x ∈ scope.names, x.2 ≠ .cell) ∧
    (∀ f ∈ ("self" : Str) :: fs, scope.names.lookup f = some .local) ∧ scope.isCoroutine = false ∧ scope.isGenerator = false ∧ scope.kind = .function ∧
    (∀ us : List Value, us.length = (("self" : Str) :: fs).length → bindArgs (ksFn "__init__" qual params body scope .none .none doc pm an (.ref cda) ct cc) ⟨us, []⟩ = pure ((("self" : Str) :: fs).zip us))
  nd : (("self" : Str) :: fs).Nodup
  nb : ∀ f ∈ ("self" : Str) :: fs, (f == ("__debug__" : Str)) = false
  few : fs.length ≤ 100

theorem lookup_zip : ∀ {ns : List Str} {vs : List Value} {i : Nat} {f : Str} {v : Value}, ns.Nodup → ns[i]? = some f → vs[i]? = some v → (ns.zip vs).reverse.lookup f = some v := by
  intro ns
  induction ns with
  | nil => intro vs i f v _ h; simp at h
  | cons n ns ih =>
    intro vs i f v hd hf hv
    cases vs with
    | nil => simp at hv
    | cons u vs =>
      have hd' := List.nodup_cons.mp hd
      rw [List.zip_cons_cons, List.reverse_cons, List.lookup_append]
      cases i with
      | zero =>
        simp at hf hv
        subst hf; subst hv
        have hno : (ns.zip vs).reverse.lookup n = none := by
          cases hq : (ns.zip vs).reverse.lookup n with
          | none => rfl
          | some w =>
            have := PySem.mem_of_lookup hq
            rw [List.mem_reverse] at this
            exact absurd (List.of_mem_zip this).1 hd'.1
        rw [hno]
        simp [List.lookup]
      | succ i =>
        simp at hf hv
        rw [ih hd'.2 hf hv]
        rfl

theorem mcall_plain {o e : Expr} {name : Str} {apos pos : Pos} {env : Env} (h : (apos.endLine == pos.line) = true) (he : starEach [e] env = [(false, eval e env)] := by rfl) :
    eval (.Call (.Attribute o name apos) [e] [] pos) env = (do
      let ov ← attributeBase o name env (eval o env)
      standAt apos.atName
      let (f, first) ← holding [ov] (getMethod ov name (do return (← importBound o env).getD true))
      callWith pos f first (backTo pos (starEach [e] env)) []) := by
  rw [arm_eval_Call, he]
  unfold methodCall methodCallPos calleeOf
  rw [h]
  rfl
theorem quiet_of {env : Env} (h : env.scope.kind = .function) : interactive env = false := by simp [interactive, h]
theorem callWith1 {M : Model} {A : Around} {E : Value → Shared → Prop} {s : Shared} {i : String} {x u : Addr} {pos : Pos} {env : Env} {e : Expr} {rest : List Expr} {Q : Value → Shared → Prop}
    (h : wpAny M A (spliced (backTo pos (starEach (e :: rest) env))) (fun vs s₁ => KxsAt i u x s₁.heap ∧ wpAny M A (call (.ref u) vs) Q E s₁) E s)
    (he : starEach (e :: rest) env = (false, eval e env) :: starEach rest env := by rfl) (hplain : (backTo pos (starEach rest env)).any (·.1) = false := by rfl) :
    wpAny M A (callWith pos (.ref u) [] (backTo pos (starEach (e :: rest) env)) []) Q E s := by
  rw [he] at h ⊢
  refine kxs_callWith (i := i) (x := x) (by show (false || (backTo pos (starEach rest env)).any (·.1)) = false; rw [hplain]; rfl) ?_
  exact evalArgs_plain h
theorem spl1 {M : Model} {A : Around} {E : Value → Shared → Prop} {s : Shared} {pos : Pos} {env : Env} {e : Expr} {Q : List Value → Shared → Prop} (h : wpAny M A (eval e env) (fun v s₁ => Q [v] s₁) E s) (he : starEach [e] env = [(false, eval e env)] := by rfl) :
    wpAny M A (spliced (backTo pos (starEach [e] env))) Q E s := by
  rw [he]
  show wpAny _ _ (spliced ((false, eval e env) :: [])) _ _ s
  exact Calls.spliced_cons (wpAny_mono h (fun v s1 q => Calls.spliced_nil q) fun _ _ z => z)
/-- what __init__ leaves of the exception at x: its dict at dx holds m -/
structure InitEnd (h h' : Heap) (x C : Addr) (fs : List Str) (vs : List Value) : Prop where
  keep : ∀ b o, b ≠ x → h.get? b = some o → h'.get? b = some o
  fin : ∃ (t1 dx : Addr), h'.get? x = some ({ cls := .ref C, dict := some dx, data := .fields #[.ref t1, .none, .none, .none, .bool false, .none] } : Obj) ∧ h.objs.size ≤ dx ∧ dx ≠ x ∧
    ∃ mA, h'.Ns1 dx mA ∧ (∀ (i : Nat) (f : Str) (v : Value), fs[i]? = some f → vs[i]? = some v → mA f = some v) ∧ ∀ f, f ∉ fs → mA f = none

section
variable {prog : Program} {w : World} {A : Around} {E : Value → Shared → Prop} {R : Result → Shared → Prop} {K : Frag} {C fI : Addr} {fs : List Str}

theorem ldE {M : Model} {s : Shared} {env : Env} {m : Str → Option Value} {x : Str} {pos : Pos} {v : Value} {Q : Value → Shared → Prop} (hn : s.heap.Ns env.locals m) (hv : m x = some v) (h : Q v s)
    (hk : env.scope.kind = .function) (hl : env.kindOf x = some .local) (hd : (x == ("__debug__" : Str)) = false) : wpAny M A (eval (.Name x pos) env) Q E s := wpAny_Name (wpAny_loadName_local hk hl hn hv h) hd

/-- further stores: the dict is there -/
theorem stores_old (T : ExcTxt prog K C fI fs) {env : Env} {x t1 dx : Addr} (hk : env.scope.kind = .function) {N : Str → Option Value} (hself : N "self" = some (.ref x)) (hls : env.kindOf "self" = some .local) :
    ∀ (gs : List Str) (ss : List Stmt) (s : Shared) (mA : Str → Option Value) (nl : List Str) {Q : Flow → Shared → Prop}, Stores gs ss → (∀ f ∈ gs, f ∈ fs ∧ env.kindOf f = some .local ∧ ∃ v, N f = some v) → K.In s.heap → s.heap.Ns env.locals N → env.locals ≠ x → env.locals ≠ dx →
    s.heap.get? x = some ({ cls := .ref C, dict := some dx, data := .fields #[.ref t1, .none, .none, .none, .bool false, .none] } : Obj) → s.heap.Ns1 dx mA → Within mA nl → nl.length + gs.length ≤ 1000 → K.lookup dx = none → dx ≠ x → gs.Nodup →
    (∀ h' tk mB, (∀ b o, b ≠ dx → s.heap.get? b = some o → h'.get? b = some o) → h'.Ns1 dx mB → (∀ f ∈ gs, mB f = N f) → (∀ f, f ∉ gs → mB f = mA f) → Q .next { s with heap := h', toks := tk }) →
    wpAny (model prog w) A (execs ss env) Q E s := by
  obtain ⟨nm, q, N0, bs, bm, sn, sub, ab, col, dd, k0, k1, k2, k3, k5, hC, hbm⟩ := T.cls
  have hcl : clsIn K C = some { name := nm, bases := bs, mro := .ref C :: bm, ns := N0, qualname := q, hasDict := true, slotNames := sn, subclasses := sub, abstract := ab, collection := col, hasDel := false } := by unfold clsIn; rw [hC] <;> rfl
  intro gs
  induction gs with
  | nil =>
    intro ss s mA nl Q hS _ _ _ _ _ _ hn _ _ _ _ _ hq
    cases hS
    obtain ⟨hp, g, d, t, os⟩ := s
    exact wpAny_execs_nil (hq hp t mA (fun _ _ _ e => e) hn (fun _ h => absurd h List.not_mem_nil) fun _ _ => rfl)
  | cons f gs ih =>
    intro ss s mA nl Q hS hf hKI hns hLx hLd hx hn hw hz hKd hdx hnd hq
    cases hS with
    | cons hS' =>
      obtain ⟨hfm, hfl, v, hv⟩ := hf f List.mem_cons_self
      obtain ⟨oD, _, _, hoD, _, _⟩ := hn.count hw
      refine wpAny_execs_cons (plainObj_wpAny_Assign_Attribute ?_)
      refine ldE hns hv (ldE hns hself ?_ hk hls (T.nb _ List.mem_cons_self)) hk hfl (T.nb _ (List.mem_cons_of_mem _ hfm))
      obtain ⟨hp, g, d, t, os⟩ := s
      refine set_plain hKI (ox := { cls := .ref C, dict := some dx, data := .fields #[.ref t1, .none, .none, .none, .bool false, .none] }) (od := some oD) ⟨hx, rfl, rfl, hoD⟩ T.sa ?_
      refine PySem.OEX.osa_old hKI hx hn hw (by simp at hz; omega) hcl (show refsVE (.ref C :: bm) = true from hbm) rfl (T.noN f hfm) (fun h' tk' k hn' => ?_)
      have kK : K.In h' := fun a o e => k a o (fun z => by rw [z, hKd] at e; cases e) (hKI a o e)
      have hns' : h'.Ns env.locals N := by
        obtain ⟨o, es, ep, ho, hr⟩ := hns
        exact ⟨o, es, ep, k _ _ hLd ho, hr⟩
      refine ih _ ⟨h', g, d, tk', os⟩ (fun y => if y = f then some v else mA y) (f :: nl) hS' (fun f' hf' => hf f' (List.mem_cons_of_mem _ hf')) kK hns' hLx hLd (k _ _ hdx.symm hx) hn' (Within.cons f v hw) (by simp at hz ⊢; omega) hKd hdx (List.nodup_cons.mp hnd).2 ?_
      intro h2 tk2 mB k2 hnB hB hB'
      refine hq h2 tk2 mB (fun b o hb e => k2 b o hb (k b o hb e)) hnB (fun f' hf' => ?_) fun f' hf' => ?_
      · rcases List.mem_cons.mp hf' with e | hf'
        · subst e
          rw [hB' _ (List.nodup_cons.mp hnd).1, if_pos rfl, hv]
        · exact hB f' hf'
      · rw [hB' f' (fun z => hf' (List.mem_cons_of_mem _ z)), if_neg (fun z => hf' (by rw [z]; exact List.mem_cons_self))]

/-- super().__init__('m') called: the built-in's part -/
theorem call_init {u x t0 : Addr} {rest : List Value} {s : Shared} {Q : Value → Shared → Prop} (T : ExcTxt prog K C fI fs) (X : K.In s.heap) (hu : s.heap.get? u = some (kxs_mw "ValueError.__init__" x)) (hx : s.heap.get? x = some (excO C t0)) (hz : rest.length ≤ sizeLine)
    (hq : ∀ h' t1, (∀ b o, b ≠ x → s.heap.get? b = some o → h'.get? b = some o) → h'.get? x = some (excO C t1) → Q .none { s with heap := h' }) : wpAny (model prog w) A (call (.ref u) rest) Q E s := by
  obtain ⟨nm, q, N0, bs, bm, sn, sub, ab, col, dd, k0, k1, k2, k3, k5, hC, hbm⟩ := T.cls
  obtain ⟨hh, g, d, tk, os⟩ := s
  refine wpAny_call (codeAny_of_tree ?_)
  show wpAny _ A.in1 (callAny (.ref u) ⟨rest, []⟩) _ _ _
  simp only [callAny]
  refine wpAny_bind (wpAny_load hu ?_)
  simp only [kxs_mw, show (Value.type "method-wrapper" == Value.type "method" || Value.type "method-wrapper" == Value.type "builtin_function_or_method" || Value.type "method-wrapper" == Value.type "method-wrapper") = true by decide, if_true]
  refine KFB.if_so (by decide) ?_
  refine wpAny_bind (check_bound_init F.excBase_ValueError.toExcCallFacts (X _ _ hC) hx rfl ?_)
  refine wpAny_bind (wpAny_pure (wpAny_pure ?_))
  refine ⟨plainId_quiet F.excBase_ValueError.init.plain _, codeAny_builtin F.excBase_ValueError.initEntry ?_⟩
  exact exc_init_tree (cls := .ref C) (t0 := t0) (dv := none) (c2 := .none) (c3 := .none) (b4 := .bool false) hx hz fun h' k e' _ => hq h' _ k e'

theorem exc_init (T : ExcTxt prog K C fI fs) {x t0 : Addr} {vs : List Value} {s : Shared} {mg mb : Str → Option Value} (hfs : fs ≠ []) (hlen : vs.length = fs.length) (X : K.In s.heap) (hlim : s.heap.NoLimit) (hg : s.heap.Ns mainGlobals mg) (hb : s.heap.Ns builtinsNs mb) (hbs : mb "super" = some (.type "super")) (hx : s.heap.get? x = some (excO C t0)) (hnx : K.lookup x = none) (hroom : A.depth < recursionLimit)
    (hq : ∀ h' tk, InitEnd s.heap h' x C fs vs → R (.ok (.ret .none)) { s with heap := h', toks := tk }) :
    codeAny (model prog w) A (.call (.ref fI) ⟨.ref x :: vs, []⟩) R s := by
  obtain ⟨qual, params, body, scope, oc, od, doc, pm, an, cda, ct, cc, osl, ccl, cdd, cvs, ccs, file, tf, cl, cld, csl, ar, ho, hcd, hcda, hc2, hfile, hcell, ⟨m, j, p0, p1, p2, p3, p4, p5, ss, rfl, hpl, hS⟩, har, hself, htop, hsu, hcls, hnc, hloc, hco, hgen, hk, hbind⟩ := T.fn
  obtain ⟨nm, q, N0, bs, bm, sn, sub, ab, col, dd, k0, k1, k2, k3, k5, hC, hbm⟩ := T.cls
  have hcl : clsIn K C = some { name := nm, bases := bs, mro := .ref C :: bm, ns := N0, qualname := q, hasDict := true, slotNames := sn, subclasses := sub, abstract := ab, collection := col, hasDel := false } := by unfold clsIn; rw [hC] <;> rfl
  refine ks_codeAny_call_defAt (binds := (("self" : Str) :: fs).zip (.ref x :: vs)) hroom (X _ _ ho) rfl hlim (codeRec_of X hcd) rfl (BindsTo.of_eq (hbind _ (by simp [hlen]))) hnc (fun y hy => hloc _ (List.of_mem_zip (show (y.1, y.2) ∈ _ from hy)).1) (fun h₀ hns hk₀ => ?_) hco hgen hk
  have X0 : K.In h₀ := X.keeps hk₀
  have nself : (((("self" : Str) :: fs).zip (Value.ref x :: vs)).reverse).lookup ("self" : Str) = some (Value.ref x) := lookup_zip (i := 0) T.nd rfl rfl
  have nfld : ∀ (i : Nat) (f : Str) (v : Value), fs[i]? = some f → vs[i]? = some v → (((("self" : Str) :: fs).zip (Value.ref x :: vs)).reverse).lookup f = some v := fun i f v h1 h2 => lookup_zip (i := i + 1) T.nd (by simpa using h1) (by simpa using h2)
  have hx0 := hk₀ _ _ hx
  have hLs : s.heap.objs.size ≠ x := Nat.ne_of_gt (Heap.lt_size hx)
  have xC : x ≠ C := fun z => by rw [z] at hnx; rw [hC] at hnx; cases hnx
  -- super().__init__('m')
  refine ks_wpAt_execs_cons (ks_wpAt_Expr_any (ks_wpAt_MethodCall ?_ (mcall_plain hpl)) (quiet_of hk) rfl)
  refine ks_wpAt_super_base (env := callEnv (ksFn "__init__" qual params _ scope .none .none doc pm an (.ref cda) ct cc) s.heap.objs.size fI) hsu hcls (by decide) rfl (X0 _ _ ho) rfl har rfl (X0 _ _ hcda) rfl hc2 hfile htop ?_
  refine ks_loadName_global hk hsu (loadGlobal_builtin (env := callEnv (ksFn "__init__" qual params _ scope .none .none doc pm an (.ref cda) ct cc) s.heap.objs.size fI) (hg.keeps hk₀) (mg_none_of X hg T.gs) (hb.keeps hk₀) hbs ⟨rfl, ?_⟩)
  refine wpAny_loadName_free hk hcls rfl ⟨_, X0 _ _ hcell, rfl⟩ ?_
  refine wpAny_loadName_local hk (by rw [hself]; exact hloc _ List.mem_cons_self) hns (by rw [hself]; exact nself) ?_
  refine ks_wpAny_isType_cls (X0 _ _ hC) rfl ⟨rfl, ?_⟩
  refine ks_wpAny_call_super (X0 _ _ hC) rfl hx0 rfl (fun c e => by cases e) (looks_mroIn X0 (show mroIn K C (.ref C) = some true from ?_)) (fun h1 e1 k1' => ?_)
  · unfold mroIn
    rw [hcl, Option.bind_some]
    simp
  have X1 : K.In h1 := X0.keeps k1'
  have hx1 := k1' _ _ hx0
  unfold ks_superIn at *
  have hsu' := T.su
  unfold ks_superIn at hsu'
  rw [hcl] at hsu'
  have hI : Looks (model prog w) h1 (isInstance (.ref x) (.type "ValueError")) true := fun A Q E s' k q => wpAny_bind (wpAny_typeOf_ref (k _ _ hx1) (looks_subIn X1 T.vE A Q E s' k q))
  refine kxs_getMethod kxs_ValueError e1 (looks_opaque X1 T.op) (l₀ := .ref C :: bm) (fun A Q E s k q => wpAny_bind ((looks_clsIn X1 hcl) A _ E s k (wpAny_pure q))) rfl X1 hsu' hI xC (by decide) ?_
  have hu : (h1.push (kxs_mw "ValueError.__init__" x)).get? h1.objs.size = some (kxs_mw "ValueError.__init__" x) := Heap.get?_push_at rfl rfl
  have k2' : ∀ b o, h1.get? b = some o → (h1.push (kxs_mw "ValueError.__init__" x)).get? b = some o := fun b o e => Heap.get?_push_of_some _ e
  refine callWith1 (i := "ValueError.__init__") (x := x) ?_
  refine spl1 (Calls.Constant_str ⟨hu, ?_⟩)
  refine call_init T (X1.keeps k2') hu (k2' _ _ hx1) (by rw [sizeLine_eq]; simp) fun h2 t1 k3' hx2 => ?_
  have KX2 : K.In h2 := fun a o e => k3' a o (fun z => by rw [z, hnx] at e; cases e) (k2' _ _ (X1 a o e))
  refine wpAt_of_wpAny ?_
  -- the stores
  cases hS with
  | nil => exact absurd rfl hfs
  | @cons f gs ss' q1 q2 q3 q4 hS' =>
    have hLn : ∀ {b o}, s.heap.get? b = some o → b ≠ x → h2.get? b = some o := fun {b o} e hb => k3' b o hb (k2' _ _ (k1' _ _ (hk₀ _ _ e)))
    have hns2 : h2.Ns s.heap.objs.size (fun y => ((("self" : Str) :: (f :: gs)).zip (.ref x :: vs)).reverse.lookup y) := by
      obtain ⟨o, es, ep, hoo, hr⟩ := hns
      exact ⟨o, es, ep, k3' _ _ hLs (k2' _ _ (k1' _ _ hoo)), hr⟩
    obtain ⟨v, vs', rfl⟩ : ∃ v vs', vs = v :: vs' := by
      cases vs with
      | nil => simp at hlen
      | cons v vs' => exact ⟨v, vs', rfl⟩
    refine wpAny_execs_cons (plainObj_wpAny_Assign_Attribute ?_)
    refine ldE (env := callEnv (ksFn "__init__" qual params _ scope .none .none doc pm an (.ref cda) ct cc) s.heap.objs.size fI) hns2 (nfld 0 f v rfl rfl) (ldE (env := callEnv (ksFn "__init__" qual params _ scope .none .none doc pm an (.ref cda) ct cc) s.heap.objs.size fI) hns2 nself ?_ hk (hloc _ List.mem_cons_self) (T.nb _ List.mem_cons_self)) hk (hloc _ (by simp)) (T.nb _ (by simp))
    refine set_plain KX2 (ox := excO C t1) (od := none) ⟨hx2, rfl, rfl, trivial⟩ T.sa ?_
    refine exc_osa KX2 hx2 hcl (show refsVE (.ref C :: bm) = true from hbm) rfl (T.noN f (by simp)) (fun h3 tk3 dx k4' dn dne hx3 hn3 => ?_)
    have sz : ∀ {b o}, h2.get? b = some o → b ≠ dx := fun {b o} e => Nat.ne_of_lt (Nat.lt_of_lt_of_le (Heap.lt_size e) dn)
    have hKd : K.lookup dx = none := by
      cases e : K.lookup dx with
      | none => rfl
      | some o => exact absurd rfl (sz (KX2 _ _ e))
    have KX3 : K.In h3 := fun a o e => k4' a o (fun z => by rw [z, hnx] at e; cases e) (KX2 a o e)
    have hL2 : ∃ o, h2.get? s.heap.objs.size = some o := by
      obtain ⟨o, es, ep, hoo, hr⟩ := hns2
      exact ⟨o, hoo⟩
    obtain ⟨oL, hoL⟩ := hL2
    have hns3 : h3.Ns s.heap.objs.size (fun y => ((("self" : Str) :: (f :: gs)).zip (.ref x :: (v :: vs'))).reverse.lookup y) := by
      obtain ⟨o, es, ep, hoo, hr⟩ := hns2
      exact ⟨o, es, ep, k4' _ _ hLs hoo, hr⟩
    have nd2 := (List.nodup_cons.mp (List.nodup_cons.mp T.nd).2)
    refine stores_old T (env := callEnv (ksFn "__init__" qual params _ scope .none .none doc pm an (.ref cda) ct cc) s.heap.objs.size fI) hk nself (hloc _ List.mem_cons_self) gs ss' _ _ [f] hS' (fun f' hf' => ⟨List.mem_cons_of_mem _ hf', hloc _ (by simp [hf']), ?_⟩) KX3 hns3 hLs (sz hoL) hx3 hn3 (fun y hy => ?_) ?_ hKd dne nd2.2 ?_
    · obtain ⟨i, hi⟩ := List.getElem?_of_mem hf'
      have hi2 : i < vs'.length := by
        have := (List.getElem?_eq_some_iff.mp hi).1
        simp at hlen
        omega
      exact ⟨vs'[i], nfld (i + 1) f' _ (by simpa using hi) (by simp [hi2])⟩
    · by_cases hyf : y = f
      · simp [hyf]
      · simp [hyf] at hy
    · have := T.few
      simp at this ⊢
      omega
    · intro h4 tk4 mB k5' hnB hB hB'
      refine hq h4 tk4 ⟨fun b o hb e => k5' b o (fun z => ?_) (k4' b o hb (hLn e hb)), t1, dx, k5' _ _ dne.symm hx3, ?_, dne, mB, hnB, fun i f' u h1 h2' => ?_, fun f' hf' => ?_⟩
      · exact sz (hLn e hb) z
      · have l1 : s.heap.objs.size < h2.objs.size := Heap.lt_size hoL
        exact Nat.le_of_lt (Nat.lt_of_lt_of_le l1 dn)
      · cases i with
        | zero =>
          simp at h1 h2'
          subst h1; subst h2'
          rw [hB' _ nd2.1, if_pos rfl]
        | succ i =>
          have hm : f' ∈ gs := List.mem_of_getElem? (by simpa using h1)
          rw [hB f' hm]
          exact nfld (i + 1) f' u h1 h2'
      · rw [hB' f' (fun z => hf' (List.mem_cons_of_mem _ z)), if_neg (fun z => hf' (by rw [z]; exact List.mem_cons_self))]
/-- a made exception -/
structure OwnMade (h h' : Heap) (e C d : Addr) (fs : List Str) (vs : List Value) : Prop where
  keep : ∀ b o, h.get? b = some o → h'.get? b = some o
  new : h.objs.size ≤ e
  obj : ∃ t1 : Addr, h'.get? e = some ({ cls := .ref C, dict := some d, data := .fields #[.ref t1, .none, .none, .none, .bool false, .none] } : Obj)
  dbig : h.objs.size ≤ d
  dne : d ≠ e
  ns : ∃ mA, h'.Ns1 d mA ∧ (∀ (i : Nat) (f : Str) (v : Value), fs[i]? = some f → vs[i]? = some v → mA f = some v) ∧ ∀ f, f ∉ fs → mA f = none
theorem exc_made (T : ExcTxt prog K C fI fs) {vs : List Value} {s : Shared} {mg mb : Str → Option Value} (hfs : fs ≠ []) (hlen : vs.length = fs.length) (X : K.In s.heap) (hlim : s.heap.NoLimit) (hg : s.heap.Ns mainGlobals mg) (hb : s.heap.Ns builtinsNs mb) (hbs : mb "super" = some (.type "super")) (hroom : A.depth + 1 < recursionLimit)
    (hq : ∀ h' tk e d, OwnMade s.heap h' e C d fs vs → R (.ok (.ret (.ref e))) { s with heap := h', toks := tk }) :
    codeAny (model prog w) A (.call (.ref C) ⟨vs, []⟩) R s := by
  obtain ⟨nm, q, N, bs, bm, sn, sub, ab, col, dd, k0, k1, k2, k3, k5, hC, hbm⟩ := T.cls
  obtain ⟨hp, g, dr, tk, os⟩ := s
  have k : ∀ b o, hp.get? b = some o → ((hp.push (kdv_tup vs)).push (excO C hp.objs.size)).get? b = some o := fun b o e => Heap.get?_push_of_some _ (Heap.get?_push_of_some _ e)
  have hget : ((hp.push (kdv_tup vs)).push (excO C hp.objs.size)).get? (hp.objs.size + 1) = some (excO C hp.objs.size) := by heap_get
  have hnx : K.lookup (hp.objs.size + 1) = none := by
    cases e : K.lookup (hp.objs.size + 1) with
    | none => rfl
    | some o =>
      have z : hp.get? (hp.objs.size + 1) = some o := X _ _ e
      exact absurd (Nat.lt_of_succ_lt (Heap.lt_size z)) (Nat.lt_irrefl _)
  have hsz : vs.length ≤ sizeLine := by
    have := T.few
    rw [hlen, sizeLine_eq]
    omega
  refine call_own F.excBase_ValueError (fun X => refsVE_contains X bm hbm) (X _ _ hC) (looks_findIn X T.iC) (fun self => bind_fn X self T.tI) hsz ?_
  refine exc_init (s := ⟨(hp.push (kdv_tup vs)).push (excO C hp.objs.size), g, dr, tk, os⟩) T hfs hlen (X.keeps k) (hlim.keeps k) (hg.keeps k) (hb.keeps k) hbs hget hnx ?_ fun h' tk' IE => ?_
  · show A.depth + 1 < recursionLimit
    exact hroom
  · obtain ⟨k', t1, dx, hx, dn, dne, mA, hn, hv⟩ := IE
    have old : ∀ b o, hp.get? b = some o → h'.get? b = some o := fun b o e => k' b o (Nat.ne_of_lt (Nat.lt_succ_of_lt (Heap.lt_size e))) (k b o e)
    have z : hp.objs.size + 1 + 1 ≤ dx := by
      first
        | (simpa only [Heap.size_push] using dn)
        | exact dn
        | (have q := dn; rw [Heap.size_push, Heap.size_push] at q; exact q)
    exact ⟨rfl, hq h' tk' (hp.objs.size + 1) dx ⟨old, Nat.le_succ _, ⟨t1, hx⟩, Nat.le_trans (Nat.le_trans (Nat.le_succ _) (Nat.le_succ _)) z, dne, mA, hn, hv⟩⟩
end
end LkX

namespace Lk
open PySem PySem.Spec PyProof.Rows L2
abbrev St := L2.St

/-! ### raise C(e, ..) -/
/-- C(e, ..): the new exception's own dict at d -/
def tMkX (C : Addr) (fs : List Str) (ta : TA) : St → Hp → XK → Prop := fun σ H Q => ta σ H fun vs H1 => vs.length = fs.length ∧ ∀ d, H1 d = none → Q (.ref C) (some d) (upd H1 d (.xd (fs.zip vs)))
theorem zip_rel : ∀ {fs : List Str} {vs : List V} {us : List Value} {mA : Str → Option Value}, Vals vs us → vs.length = fs.length → (∀ (i : Nat) (f : Str) (v : Value), fs[i]? = some f → us[i]? = some v → mA f = some v) → (∀ f, f ∉ fs → mA f = none) → fs.Nodup → ∀ f, RelO ((fs.zip vs).lookup f) (mA f) := by
  intro fs
  induction fs with
  | nil =>
    intro vs us mA r hl h hn hd f
    rw [hn f List.not_mem_nil]
    exact True.intro
  | cons g fs ih =>
    intro vs us mA r hl h hn hd f
    cases r with
    | nil => simp at hl
    | @cons x u vs us rx rr =>
      rw [List.zip_cons_cons, lookup_put]
      by_cases hfg : f = g
      · rw [if_pos hfg, hfg, h 0 g u rfl rfl]
        exact rx
      · rw [if_neg hfg]
        have q := ih (mA := fun y => if y = g then none else mA y) rr (by simpa using hl) (fun i f' v' h1 h2 => by
            rw [if_neg (fun z => (List.nodup_cons.mp hd).1 (by rw [← z]; exact List.mem_of_getElem? h1))]
            exact h (i + 1) f' v' (by simpa using h1) (by simpa using h2)) (fun f' hf' => by
            by_cases z : f' = g
            · rw [if_pos z]
            · rw [if_neg z]
              exact hn f' (fun y => by rcases List.mem_cons.mp y with y | y; exact z y; exact hf' y)) (List.nodup_cons.mp hd).2 f
        rw [if_neg hfg] at q
        exact q
section
variable {X : Cx} {C fI : Addr} {fs : List Str} {e : Expr} {es : List Expr} {ta : TA} {x : Str} {p pos : Pos} {k : Nat}
theorem made_at {pins : List (Addr × Obj)} {σ : St} {H1 : Hp} {s1 : Shared} {us : List Value} {vs : List V} {Q : XK} {A : Around} {E : Value → Shared → Prop} (T : LkX.ExcTxt X.prog X.K C fI fs) (I1 : Inv X pins σ H1 s1) (r1 : Vals vs us) (hlen : vs.length = fs.length) (hfs : fs ≠ []) (hroom : A.depth + 1 < recursionLimit)
    (q : ∀ d, H1 d = none → Q (.ref C) (some d) (upd H1 d (.xd (fs.zip vs)))) : wpAny (model X.prog X.w) A (call (.ref C) us) (L2N.MkP X pins σ Q) E s1 := by
  obtain ⟨mb, hb1, hb2⟩ := I1.mod.blt
  have hul : us.length = fs.length := by rw [← r1.length]; exact hlen
  refine wpAny_call (LkX.exc_made T hfs hul I1.kIn I1.nolimit (I1.mod.glob.keeps I1.bk) (hb1.keeps I1.bk) ((hb2 "super" (by decide)).trans (by decide +kernel)) hroom fun h' tk' e d M => ?_)
  obtain ⟨hp, g, dr, tk, os⟩ := s1
  show L2N.MkP X pins σ Q (.ref e) ⟨h', g, dr, tk', os⟩
  obtain ⟨t1, hoe⟩ := M.obj
  obtain ⟨mA, hns, hv, hno⟩ := M.ns
  obtain ⟨G', g1, g2⟩ := restrict h' fun b => decide (b ≠ e)
  have gk : ∀ b, b ≠ e → G'.get? b = h'.get? b := fun b hb => g1 b (decide_eq_true hb)
  have ge : G'.get? e = none := g2 e (by simp)
  have old : ∀ b o, hp.get? b = some o → G'.get? b = some o := fun b o q => (gk b (Nat.ne_of_lt (Nat.lt_of_lt_of_le (Heap.lt_size q) M.new))).trans (M.keep b o q)
  have ob : ObjOk X.prog X.w (upd H1 d (.xd (fs.zip vs))) G' d (.xd (fs.zip vs)) :=
    ⟨_, hns.at (fun o q => (gk d M.dne).trans q), zip_rel r1 hlen hv hno (List.nodup_cons.mp T.nd).2⟩
  have J : Inv X pins σ (upd H1 d (.xd (fs.zip vs))) ⟨G', g, dr, tk', os⟩ := I1.laid (t' := tk') old M.dbig ob
  refine ⟨e, _, _, ⟨G', g, dr, tk', os⟩, _, .ref C, some d, rfl, J, fun b o q => ?_, ge, hoe, ⟨rfl, rfl, fun vs hvs => ?_⟩, rfl, rfl, ?_, rfl, I1.bare, raises_own T.exC T.tyC, q d (I1.hok.fresh M.dbig)⟩
  · by_cases hb : b = e
    · have q' : G'.get? b = some o := q
      rw [hb, ge] at q'; cases q'
    · exact (gk b hb).symm.trans q
  · cases hvs
    rfl
  · rw [upd_ne (Ne.symm M.dne)]
    exact I1.hok.fresh M.new
theorem pmk_own (T : LkX.ExcTxt X.prog X.K C fI fs) (hfs : fs ≠ []) (hr : Room k X.A) (hm : X.mg x = some (.ref C)) (ha : PA X (e :: es) ta) (hg : Gl X x) (hdb : (x == ("__debug__" : Str)) = false := by decide)
    (he : starEach (e :: es) X.env = (false, eval e X.env) :: starEach es X.env := by rfl) (hpl : (backTo pos (starEach es X.env)).any (·.1) = false := by rfl) :
    L2N.PMk X (.Call (.Name x p) (e :: es) [] pos) (tMkX C fs ta) := by
  intro pins s σ H Q I h
  refine wpAny_Call_Name_kw (ld_glob I hg hm ?_ hdb)
  refine PySem.W.callWith_K (h₀ := X.base) I.ok.mod.kin T.kC (thn (ha.run pos pins s σ H _ I h) fun us s1 ⟨vs, H1, I1, r1, hl, q1⟩ => ⟨I1.kIn, ?_⟩) he hpl
  exact made_at T I1 r1 hl hfs (by have := hr.dp; omega) q1
end
end Lk
namespace Lk
open PySem PySem.Spec PyProof.Rows L2

/-! ### defs as they are called -/
/-- the def at f keeps sp, by some code -/
def FnA (P : Program) (w : World) (K : PySem.W.Frag) (mg : Str → Option Value) (base : Heap) (k : Nat) (f : Addr) (ps : List Str) (sp : Sp) : Prop :=
  ∃ fd, FnOk P w K mg base (L2N.CX P w) k f fd ps sp ∧ Binds K fd ps []
def FnHA (P : Program) (w : World) (K : PySem.W.Frag) (mg : Str → Option Value) (base : Heap) (k : Nat) (f : Addr) (ps : List Str) (sp : Sp) : Prop :=
  ∃ fd, L2H.FnH P w K mg base (L2N.CX P w) k f fd ps sp ∧ Binds K fd ps []
/-- the module's name x holds the def at f -/
structure Nm (K : PySem.W.Frag) (mg : Str → Option Value) (x : Str) (f : Addr) : Prop where
  m : mg x = some (.ref f)
  k : PySem.W.keepIn K (.ref f) = true
theorem takes0 {X : Cx} : L2N.Takes X (fun _ _ _ _ => False) := fun _ _ x => by
  obtain ⟨_, _, _, _, _, _, _, _, _, _, _, _, _, _, _, _, z⟩ := x
  exact z.elim
section
variable {X : Cx} {k : Nat} {f : Addr} {ps : List Str} {sp : Sp} {W : WX} {x : Str} {p pos : Pos} {e : Expr} {es : List Expr} {t : TA}
theorem pe_callA (G : FnA X.prog X.w X.K X.mg X.base k f ps sp) (hr : Room k X.A) (hm : Nm X.K X.mg x f) (tk : L2N.Takes X W)
    (ha : PA X (e :: es) t) (hg : Gl X x := by rfl) (hdb : (x == ("__debug__" : Str)) = false := by decide) (he : starEach (e :: es) X.env = (false, eval e X.env) :: starEach es X.env := by rfl) (hpl : (backTo pos (starEach es X.env)).any (·.1) = false := by rfl) :
    PE X (.Call (.Name x p) (e :: es) [] pos) (tCallS sp (WE W) t) := by
  obtain ⟨fd, F, b⟩ := G
  exact pe_callS F hr hg hm.m hm.k b (fun σ => L2N.passAt tk σ) ha hdb he hpl
theorem pe_callHA (G : FnHA X.prog X.w X.K X.mg X.base k f ps sp) (hr : L2H.RoomH k X.A) (hc : L2H.HotC X) (hm : Nm X.K X.mg x f)
    (ha : PA X (e :: es) t) (hg : Gl X x := by rfl) (hdb : (x == ("__debug__" : Str)) = false := by decide) (he : starEach (e :: es) X.env = (false, eval e X.env) :: starEach es X.env := by rfl) (hpl : (backTo pos (starEach es X.env)).any (·.1) = false := by rfl) :
    PE X (.Call (.Name x p) (e :: es) [] pos) (tCallS sp (fun _ => E0) t) := by
  obtain ⟨fd, F, b⟩ := G
  exact L2H.pe_callH F hr hc hg hm.m hm.k b (fun σ => L2N.passAt takes0 σ) ha hdb he hpl
end
section
variable {P : Program} {w : World} {K : PySem.W.Frag} {mg : Str → Option Value} {base : Heap}
/-- a def's body, raising or not -/
theorem FnA.of {x qual : Str} {st : Stmt} {f : Addr} {fd : FuncData} {N ps : List Str} {k : Nat} {sp : Sp} (F : Fun K x qual st f fd) (S : FnScope N ps (defScope st)) (b : Binds K fd ps []) (len : ∀ vs H Q E, sp vs H Q E → vs.length = ps.length)
    (hbody : ∀ (cdv : Value) (A : Around) (outer : List Env) (s : Shared) (H : Hp) (vs : List V) (Q : VK) (E : XK), Room k (A.deeper (envOfC qual (defScope st) s.heap.objs.size f cdv)) → L2N.Takes (cxOf (L2N.CX P w) P w K mg base N qual (defScope st) f cdv A outer s H E) (fun cls d _ H' => E cls d H') →
      PassesOwn (model P w) (cxOf (L2N.CX P w) P w K mg base N qual (defScope st) f cdv A outer s H E).A (cxOf (L2N.CX P w) P w K mg base N qual (defScope st) f cdv A outer s H E).env (cxOf (L2N.CX P w) P w K mg base N qual (defScope st) f cdv A outer s H E).xe → sp vs H Q E →
      ∃ t, PSs (cxOf (L2N.CX P w) P w K mg base N qual (defScope st) f cdv A outer s H E) (defBody st) t ∧ t { nx := fun _ H' => Q .non H', rt := Q } (start N vs) H) : FnA P w K mg base (k + 1) f ps sp := by
  obtain ⟨oc, od, kV, doc, pm, an, cdv, ct, osl, rfl, lk, hcd⟩ := F.ex
  exact ⟨_, fn_of lk hcd S len fun A outer s H vs Q E hr hsp => hbody cdv A outer s H vs Q E hr (L2N.takes_of rfl rfl rfl rfl) (passes_of rfl) hsp, b⟩
theorem FnHA.of {x qual : Str} {st : Stmt} {f : Addr} {fd : FuncData} {N ps : List Str} {k : Nat} {sp : Sp} (F : Fun K x qual st f fd) (S : FnScope N ps (defScope st)) (b : Binds K fd ps []) (len : ∀ vs H Q E, sp vs H Q E → vs.length = ps.length)
    (hbody : ∀ (cdv : Value) (A : Around) (outer : List Env) (s : Shared) (H : Hp) (vs : List V) (Q : VK) (E : XK) (p : Addr × Obj), L2H.Hot1 A p → L2H.RoomH k (A.deeper (envOfC qual (defScope st) s.heap.objs.size f cdv)) → L2H.HotC (L2H.cxH (L2N.CX P w) P w K mg base N qual (defScope st) f cdv A outer s H E p) →
      PassesOwn (model P w) (L2H.cxH (L2N.CX P w) P w K mg base N qual (defScope st) f cdv A outer s H E p).A (L2H.cxH (L2N.CX P w) P w K mg base N qual (defScope st) f cdv A outer s H E p).env (L2H.cxH (L2N.CX P w) P w K mg base N qual (defScope st) f cdv A outer s H E p).xe → sp vs H Q E →
      ∃ t, PSs (L2H.cxH (L2N.CX P w) P w K mg base N qual (defScope st) f cdv A outer s H E p) (defBody st) t ∧ t { nx := fun _ H' => Q .non H', rt := Q } (start N vs) H) : FnHA P w K mg base (k + 1) f ps sp := by
  obtain ⟨oc, od, kV, doc, pm, an, cdv, ct, osl, rfl, lk, hcd⟩ := F.ex
  exact ⟨_, L2H.fn_ofH lk hcd S len fun A outer s H vs Q E p hot hr hsp => hbody cdv A outer s H vs Q E p hot hr ⟨p, ⟨hot.1, hot.2⟩, List.mem_cons_self⟩ (passes_of rfl) hsp, b⟩
end

/-! ### heaps -/
/-- all that was tracked stands, but for ms -/
def Kp (ms : List Addr) (H H' : Hp) : Prop := ∀ a o, H a = some o → a ∉ ms → H' a = some o
theorem Kp.refl {ms : List Addr} {H : Hp} : Kp ms H H := fun _ _ h _ => h
theorem Kp.at {ms : List Addr} {H H' : Hp} {a : Addr} {o : HO} (k : Kp ms H H') (h : H a = some o) (n : a ∉ ms) : H' a = some o := k a o h n
theorem Kp.at0 {H H' : Hp} {a : Addr} {o : HO} (k : Kp [] H H') (h : H a = some o) : H' a = some o := k a o h List.not_mem_nil
theorem Kp.trans {ms : List Addr} {H H1 H2 : Hp} (a : Kp ms H H1) (b : Kp ms H1 H2) : Kp ms H H2 := fun c o h n => b c o (a c o h n) n
theorem Kp.trans0 {ms : List Addr} {H H1 H2 : Hp} (a : Kp ms H H1) (b : Kp [] H1 H2) : Kp ms H H2 := fun c o h n => b c o (a c o h n) List.not_mem_nil
theorem Kp.mono {ms ns : List Addr} {H H1 : Hp} (a : Kp ms H H1) (h : ∀ x ∈ ms, x ∈ ns) : Kp ns H H1 := fun c o e n => a c o e (fun z => n (h c z))
theorem Kp.new {ms : List Addr} {H H1 : Hp} {p : Addr} {o : HO} (k : Kp ms H H1) (h : H1 p = none) : Kp ms H (upd H1 p o) := fun a u e n => by
  rw [upd_ne (ne_of_none (k a u e n) h)]
  exact k a u e n
theorem Kp.mut {ms : List Addr} {H H1 : Hp} {p : Addr} {o : HO} (k : Kp ms H H1) (h : p ∈ ms) : Kp ms H (upd H1 p o) := fun a u e n => by
  rw [upd_ne (fun z => n (by rw [z]; exact h))]
  exact k a u e n
/-- an object that was not there at the beginning is changed -/
theorem Kp.own {ms : List Addr} {H H1 : Hp} {p : Addr} {o : HO} (k : Kp ms H H1) (h : H p = none) : Kp ms H (upd H1 p o) := fun a u e n => by
  rw [upd_ne (ne_of_none e h)]
  exact k a u e n
theorem Kp.free {H H' : Hp} {a : Addr} (k : Kp [] H H') (h : H' a = none) : H a = none := by
  cases q : H a with
  | none => rfl
  | some o => rw [k a o q List.not_mem_nil] at h; cases h
theorem Kp.freeM {ms : List Addr} {H H' : Hp} {a : Addr} (k : Kp ms H H') (h : H' a = none) (hm : ∀ b ∈ ms, ∃ o, H' b = some o) : H a = none := by
  cases q : H a with
  | none => rfl
  | some o =>
    by_cases z : a ∈ ms
    · obtain ⟨o', e⟩ := hm a z
      rw [h] at e; cases e
    · rw [k a o q z] at h; cases h
theorem upd_get {H : Hp} {p a : Addr} {o u : HO} (n : a ≠ p) (h : H a = some u) : upd H p o a = some u := by rw [upd_ne n]; exact h
theorem upd_nil {H : Hp} {p a : Addr} {o : HO} (h : upd H p o a = none) : H a = none := by
  unfold upd at h
  split at h
  · cases h
  · exact h
theorem upd_nel {H : Hp} {p a : Addr} {o : HO} (h : upd H p o a = none) : a ≠ p := fun z => by
  rw [z, upd_same] at h; cases h

/-! ### lists under a map -/
theorem map_getD {α : Type} [Inhabited α] {f : α → V} {xs : List α} {i : Nat} (h : i < xs.length) : (xs.map f)[i]? = some (f (xs.getD i default)) := by
  rw [List.getElem?_map, List.getElem?_eq_getElem h]
  simp [List.getD, List.getElem?_eq_getElem h]
theorem getD_some {α : Type} [Inhabited α] {xs : List α} {i : Nat} (h : i < xs.length) : xs[i]? = some (xs.getD i default) := by
  rw [List.getElem?_eq_getElem h]
  simp [List.getD, List.getElem?_eq_getElem h]
theorem atI_pos {α : Type} {xs : List α} {i : Int} {v : α} (h0 : 0 ≤ i) (h : xs[i.toNat]? = some v) : atI xs i = some v := by
  have e : i = ((i.toNat : Nat) : Int) := by omega
  rw [e]
  exact atI_nat (by simpa using h)
theorem ixN_pos {n : Nat} {i : Int} (h0 : 0 ≤ i) (h : i.toNat < n) : ixN n i = some i.toNat := by
  unfold ixN
  rw [if_pos h0, if_pos (by omega)]
theorem map_set {α : Type} {f : α → V} {xs : List α} {i : Nat} {x : α} : (xs.map f).set i (f x) = (xs.set i x).map f := by
  rw [List.map_set]
theorem map_app {α : Type} {f : α → V} {xs : List α} {x : α} : xs.map f ++ [f x] = (xs ++ [x]).map f := by
  rw [List.map_append]; rfl

/-! ### readings by values -/
/-- a + b -/
def aAdd : R2 := fun x y H Q => rI0 (fun i j => .int (i + j)) x y H Q ∨ (∃ i j, x = .str i ∧ y = .str j ∧ i.length + j.length ≤ sizeLine ∧ Q (.str (i ++ j)) H) ∨ rCat x y H Q
/-- a * b -/
def aMul : R2 := fun x y H Q => rI CMul (fun i j => .int (i * j)) x y H Q ∨ rRep x y H Q
/-- x == y of lists of flat things -/
def aEq (K : PySem.W.Frag) : R2 := fun x y H Q => rEq x y H Q ∨ rEqD K x y H Q
def aNe (K : PySem.W.Frag) : R2 := fun x y H Q => rNe x y H Q ∨ rNeD K x y H Q
section
variable {X : Cx}
theorem o_add : OpR X (binaryOp .Add) aAdd := op_add.or (op_add_str.or op_cat)
theorem o_mul : OpR X (binaryOp .Mult) aMul := op_mul.or op_rep
theorem o_eq (hu : X.A.units + 64 < cLine) : OpR X (compareOp .Eq) (aEq X.K) := op_eq.or (op_eqD hu)
theorem o_ne (hu : X.A.units + 64 < cLine) : OpR X (compareOp .NotEq) (aNe X.K) := op_ne.or (op_neD hu)
end
section
variable {i j : Int} {a b : Str} {p q : Addr} {H : Hp} {Q : VK} {xs ys : List V} {K : PySem.W.Frag}
theorem w_addI (k : Q (.int (i + j)) H) : aAdd (.int i) (.int j) H Q := .inl ⟨i, j, rfl, rfl, k⟩
theorem w_addS (h : a.length + b.length ≤ sizeLine) (k : Q (.str (a ++ b)) H) : aAdd (.str a) (.str b) H Q := .inr (.inl ⟨a, b, rfl, rfl, h, k⟩)
theorem w_addLM {α : Type} {f : α → V} {us vs : List α} (hp : H p = some (.lst (us.map f))) (hq : H q = some (.lst (vs.map f))) (hl : us.length + vs.length ≤ sizeLine) (k : ∀ r, H r = none → Q (.ref r) (upd H r (.lst ((us ++ vs).map f)))) : aAdd (.ref p) (.ref q) H Q :=
  .inr (.inr ⟨p, q, _, _, rfl, rfl, hp, hq, by simpa using hl, fun r hr => by rw [← List.map_append]; exact k r hr⟩)
theorem w_addL (hp : H p = some (.lst xs)) (hq : H q = some (.lst ys)) (hl : xs.length + ys.length ≤ sizeLine) (k : ∀ r, H r = none → Q (.ref r) (upd H r (.lst (xs ++ ys)))) : aAdd (.ref p) (.ref q) H Q :=
  .inr (.inr ⟨p, q, _, _, rfl, rfl, hp, hq, hl, k⟩)
theorem w_mulI (h : CMul i j) (k : Q (.int (i * j)) H) : aMul (.int i) (.int j) H Q := .inl ⟨i, j, rfl, rfl, h, k⟩
theorem rep_map {α : Type} {f : α → V} {x : α} {n : Nat} : (List.replicate n [f x]).flatten = (List.replicate n x).map f := by
  induction n with
  | zero => rfl
  | succ n ih => rw [List.replicate_succ, List.flatten_cons, ih, List.replicate_succ]; rfl
theorem w_repI {f : Int → V} (hp : H p = some (.lst [.int i])) (h1 : -(2 ^ 63) ≤ j) (h2 : j < 2 ^ 63) (h3 : j.toNat ≤ sizeLine) (k : ∀ r, H r = none → Q (.ref r) (upd H r (.lst ((List.replicate j.toNat i).map V.int)))) : aMul (.ref p) (.int j) H Q :=
  .inr ⟨p, j, _, rfl, rfl, hp, h1, h2, by simpa using h3, fun r hr => by rw [rep_map (f := V.int)]; exact k r hr⟩
theorem w_repB {c : Bool} (hp : H p = some (.lst [.bl c])) (h1 : -(2 ^ 63) ≤ j) (h2 : j < 2 ^ 63) (h3 : j.toNat ≤ sizeLine) (k : ∀ r, H r = none → Q (.ref r) (upd H r (.lst ((List.replicate j.toNat c).map V.bl)))) : aMul (.ref p) (.int j) H Q :=
  .inr ⟨p, j, _, rfl, rfl, hp, h1, h2, by simpa using h3, fun r hr => by rw [rep_map (f := V.bl)]; exact k r hr⟩
theorem w_I0 {g : Int → Int → V} (k : Q (g i j) H) : rI0 g (.int i) (.int j) H Q := ⟨i, j, rfl, rfl, k⟩
theorem w_I {C : Int → Int → Prop} {g : Int → Int → V} (c : C i j) (k : Q (g i j) H) : rI C g (.int i) (.int j) H Q := ⟨i, j, rfl, rfl, c, k⟩
theorem w_U {g : Int → V} (k : Q (g i) H) : rU g (.int i) H Q := ⟨i, rfl, k⟩
theorem dI : decide (V.int i = V.int j) = decide (i = j) := by simp
theorem dS : decide (V.str a = V.str b) = decide (a = b) := by simp
theorem dB {c d : Bool} : decide (V.bl c = V.bl d) = decide (c = d) := by simp
theorem w_eqI (k : Q (.bl (decide (i = j))) H) : aEq K (.int i) (.int j) H Q := .inl ⟨rfl, by rw [dI]; exact k⟩
theorem w_eqS (k : Q (.bl (decide (a = b))) H) : aEq K (.str a) (.str b) H Q := .inl ⟨rfl, by rw [dS]; exact k⟩
theorem w_eqB {c d : Bool} (k : Q (.bl (decide (c = d))) H) : aEq K (.bl c) (.bl d) H Q := .inl ⟨rfl, by rw [dB]; exact k⟩
theorem w_neI (k : Q (.bl (!decide (i = j))) H) : aNe K (.int i) (.int j) H Q := .inl ⟨rfl, by rw [dI]; exact k⟩
theorem w_neS (k : Q (.bl (!decide (a = b))) H) : aNe K (.str a) (.str b) H Q := .inl ⟨rfl, by rw [dS]; exact k⟩
theorem w_neB {c d : Bool} (k : Q (.bl (!decide (c = d))) H) : aNe K (.bl c) (.bl d) H Q := .inl ⟨rfl, by rw [dB]; exact k⟩

theorem eqvAll_int : ∀ (ns ms : List Int), PyData.eqvAll (ns.map PyData.int) (ms.map PyData.int) = decide (ns = ms) := by
  intro ns
  induction ns with
  | nil => intro ms; cases ms <;> simp [PyData.eqvAll]
  | cons n ns ih =>
    intro ms
    cases ms with
    | nil => simp [PyData.eqvAll]
    | cons m ms =>
      rw [List.map_cons, List.map_cons, PyData.eqvAll, ih, PyData.eqv, Bool.eq_iff_iff]
      simp
theorem dpAllI : ∀ (ns : List Int), DpAll K H (ns.map V.int) (ns.map PyData.int)
  | [] => .nil
  | n :: ns => .cons (.int n) (dpAllI ns)
theorem shapedI (ns : List Int) : SeqAt.shaped (.list (ns.map PyData.int)) = true := by
  have h1 : ∀ ns : List Int, PyData.canLayAll0 (ns.map PyData.int) = true := by
    intro ns
    induction ns with
    | nil => rfl
    | cons n ns ih => rw [List.map_cons, PyData.canLayAll0, ih]; rfl
  have h2 : ∀ ns : List Int, PyData.depthAll (ns.map PyData.int) = 0 := by
    intro ns
    induction ns with
    | nil => rfl
    | cons n ns ih => rw [List.map_cons, PyData.depthAll, ih]; rfl
  unfold SeqAt.shaped
  rw [PyData.canLay0, h1, PyData.depth, h2]
  decide
theorem w_eqLI {ns ms : List Int} (hp : SqL K H p (ns.map V.int)) (hq : SqL K H q (ms.map V.int)) (k : Q (.bl (decide (ns = ms))) H) : aEq K (.ref p) (.ref q) H Q :=
  .inr ⟨_, _, .lst hp (dpAllI ns), .lst hq (dpAllI ms), shapedI ns, shapedI ms, by rw [PyData.eqv, eqvAll_int]; exact k⟩
theorem w_neLI {ns ms : List Int} (hp : SqL K H p (ns.map V.int)) (hq : SqL K H q (ms.map V.int)) (k : Q (.bl (!decide (ns = ms))) H) : aNe K (.ref p) (.ref q) H Q :=
  .inr ⟨_, _, .lst hp (dpAllI ns), .lst hq (dpAllI ms), shapedI ns, shapedI ms, by rw [PyData.eqv, eqvAll_int]; exact k⟩
end
/-- is None -/
def aIsN : R2 := fun x y H Q => y = .non ∧ Q (.bl (decide (x = .non))) H
def aNotN : R2 := fun x y H Q => y = .non ∧ Q (.bl (!decide (x = .non))) H
theorem o_isN {X : Cx} : OpR X (compareOp .Is) aIsN := op_isN
theorem o_notN {X : Cx} : OpR X (compareOp .IsNot) aNotN := op_notN
section
variable {i j : Int} {a b : Str} {p q : Addr} {H : Hp} {Q : VK} {xs ys : List V} {K : PySem.W.Frag} {x v : V}
theorem w_isN_n (k : Q (.bl true) H) : aIsN .non .non H Q := ⟨rfl, k⟩
theorem w_isN_i (k : Q (.bl false) H) : aIsN (.int i) .non H Q := ⟨rfl, k⟩
theorem w_isN_r (k : Q (.bl false) H) : aIsN (.ref p) .non H Q := ⟨rfl, k⟩
theorem w_isN_s (k : Q (.bl false) H) : aIsN (.str a) .non H Q := ⟨rfl, k⟩
theorem w_notN_n (k : Q (.bl false) H) : aNotN .non .non H Q := ⟨rfl, k⟩
theorem w_notN_i (k : Q (.bl true) H) : aNotN (.int i) .non H Q := ⟨rfl, k⟩
theorem w_notN_r (k : Q (.bl true) H) : aNotN (.ref p) .non H Q := ⟨rfl, k⟩
theorem w_notN_s (k : Q (.bl true) H) : aNotN (.str a) .non H Q := ⟨rfl, k⟩
/-! x[i] -/
theorem w_ixC {xs : List V} {n : Nat} (hp : H p = some (.lst xs)) (hv : xs[n]? = some v) (k : Q v H) : rIx K (.ref p) (.int (n : Int)) H Q := .inl ⟨p, _, _, v, rfl, rfl, SqL.of hp, atI_nat hv, k⟩
theorem w_ixM {α : Type} [Inhabited α] {f : α → V} {us : List α} (hp : H p = some (.lst (us.map f))) (h0 : 0 ≤ i) (hl : i.toNat < us.length) (k : Q (f (us.getD i.toNat default)) H) : rIx K (.ref p) (.int i) H Q :=
  .inl ⟨p, _, _, _, rfl, rfl, SqL.of hp, atI_pos h0 (map_getD hl), k⟩
theorem w_ixL (hp : H p = some (.lst xs)) (h0 : 0 ≤ i) (hv : xs[i.toNat]? = some v) (k : Q v H) : rIx K (.ref p) (.int i) H Q :=
  .inl ⟨p, _, _, v, rfl, rfl, SqL.of hp, atI_pos h0 hv, k⟩
theorem w_ixT (hp : H p = some (.tup xs)) (h0 : 0 ≤ i) (hv : xs[i.toNat]? = some v) (k : Q v H) : rIx K (.ref p) (.int i) H Q :=
  .inr (.inl ⟨p, _, _, v, rfl, rfl, .inl (.inl hp), atI_pos h0 hv, k⟩)
theorem w_ixS {c : Nat} (hl : a.length ≤ sizeLine) (h0 : 0 ≤ i) (hv : a.cps.toList[i.toNat]? = some c) (k : Q (.str ⟨#[c]⟩) H) : rIx K (.str a) (.int i) H Q :=
  .inr (.inr ⟨a, _, c, rfl, rfl, hl, atI_pos h0 hv, k⟩)
/-! x[i] = v -/
theorem w_setM {α : Type} {f : α → V} {us : List α} {u : α} {Q : Hp → Prop} (hp : H p = some (.lst (us.map f))) (h0 : 0 ≤ i) (hl : i.toNat < us.length) (k : Q (upd H p (.lst ((us.set i.toNat u).map f)))) : rSetL (.ref p) (.int i) (f u) H Q :=
  ⟨p, _, _, i.toNat, rfl, rfl, hp, ixN_pos h0 (by simpa using hl), by rw [map_set]; exact k⟩
theorem w_setMI {us : List Int} {u : Int} {Q : Hp → Prop} (hp : H p = some (.lst (us.map V.int))) (h0 : 0 ≤ i) (hl : i.toNat < us.length) (k : Q (upd H p (.lst ((us.set i.toNat u).map V.int)))) : rSetL (.ref p) (.int i) (.int u) H Q := w_setM hp h0 hl k
theorem w_setMB {us : List Bool} {u : Bool} {Q : Hp → Prop} (hp : H p = some (.lst (us.map V.bl))) (h0 : 0 ≤ i) (hl : i.toNat < us.length) (k : Q (upd H p (.lst ((us.set i.toNat u).map V.bl)))) : rSetL (.ref p) (.int i) (.bl u) H Q := w_setM hp h0 hl k
theorem w_setMS {us : List Str} {u : Str} {Q : Hp → Prop} (hp : H p = some (.lst (us.map V.str))) (h0 : 0 ≤ i) (hl : i.toNat < us.length) (k : Q (upd H p (.lst ((us.set i.toNat u).map V.str)))) : rSetL (.ref p) (.int i) (.str u) H Q := w_setM hp h0 hl k
theorem w_setL {u : V} {Q : Hp → Prop} (hp : H p = some (.lst xs)) (h0 : 0 ≤ i) (hl : i.toNat < xs.length) (k : Q (upd H p (.lst (xs.set i.toNat u)))) : rSetL (.ref p) (.int i) u H Q :=
  ⟨p, _, _, i.toNat, rfl, rfl, hp, ixN_pos h0 hl, k⟩
/-! methods of lists: the type is asked first -/
theorem w_tyL (hp : H p = some (.lst xs)) (k : A) : tyV K "list" (.ref p) H ∧ A := ⟨.inl ⟨rfl, _, SqL.of hp⟩, k⟩
theorem w_tyS (k : A) : tyV K "str" (.str a) H ∧ A := ⟨rfl, k⟩
theorem w_appMI {us : List Int} {u : Int} (hp : H p = some (.lst (us.map V.int))) (hl : us.length < sizeLine) (k : Q .non (upd H p (.lst ((us ++ [u]).map V.int)))) : rAppend (.ref p) [.int u] H Q := ⟨p, _, _, rfl, rfl, hp, by simpa using hl, by rw [map_app (f := V.int)]; exact k⟩
theorem w_appMS {us : List Str} {u : Str} (hp : H p = some (.lst (us.map V.str))) (hl : us.length < sizeLine) (k : Q .non (upd H p (.lst ((us ++ [u]).map V.str)))) : rAppend (.ref p) [.str u] H Q := ⟨p, _, _, rfl, rfl, hp, by simpa using hl, by rw [map_app (f := V.str)]; exact k⟩
theorem w_appMB {us : List Bool} {u : Bool} (hp : H p = some (.lst (us.map V.bl))) (hl : us.length < sizeLine) (k : Q .non (upd H p (.lst ((us ++ [u]).map V.bl)))) : rAppend (.ref p) [.bl u] H Q := ⟨p, _, _, rfl, rfl, hp, by simpa using hl, by rw [map_app (f := V.bl)]; exact k⟩
theorem w_appL {u : V} (hp : H p = some (.lst xs)) (hl : xs.length < sizeLine) (k : Q .non (upd H p (.lst (xs ++ [u])))) : rAppend (.ref p) [u] H Q := ⟨p, _, _, rfl, rfl, hp, hl, k⟩
theorem w_rev (hp : H p = some (.lst xs)) (k : Q .non (upd H p (.lst xs.reverse))) : rReverse (.ref p) [] H Q := ⟨p, _, rfl, rfl, hp, k⟩
def rInsert : V → List V → Hp → VK → Prop := fun x vs H Q => ∃ (l : Addr) (xs : List V) (i : Int) (y : V), x = .ref l ∧ vs = [.int i, y] ∧ H l = some (.lst xs) ∧ xs.length < sizeLine ∧ 0 ≤ i ∧ i < 2 ^ 63 ∧ Q .non (upd H l (.lst (xs.take i.toNat ++ [y] ++ xs.drop i.toNat)))
theorem m_insert {X : Cx} : MtR X "list.insert" rInsert := mt_insert
def insAt {α : Type} (us : List α) (n : Nat) (u : α) : List α := us.take n ++ [u] ++ us.drop n
theorem w_insMI {us : List Int} {u : Int} (hp : H p = some (.lst (us.map V.int))) (hl : us.length < sizeLine) (h0 : 0 ≤ i) (h1 : i < 2 ^ 63) (k : Q .non (upd H p (.lst ((insAt us i.toNat u).map V.int)))) : rInsert (.ref p) [.int i, .int u] H Q :=
  ⟨p, _, _, _, rfl, rfl, hp, by simpa using hl, h0, h1, by rw [← List.map_take, ← List.map_drop, map_app (f := V.int), ← List.map_append]; exact k⟩
theorem w_insMS {us : List Str} {u : Str} (hp : H p = some (.lst (us.map V.str))) (hl : us.length < sizeLine) (h0 : 0 ≤ i) (h1 : i < 2 ^ 63) (k : Q .non (upd H p (.lst ((insAt us i.toNat u).map V.str)))) : rInsert (.ref p) [.int i, .str u] H Q :=
  ⟨p, _, _, _, rfl, rfl, hp, by simpa using hl, h0, h1, by rw [← List.map_take, ← List.map_drop, map_app (f := V.str), ← List.map_append]; exact k⟩
/-! built-ins -/
def rLen (K : PySem.W.Frag) : List V → Hp → VK → Prop := fun xs H Q => ∃ x n, xs = [x] ∧ LenV K x H n ∧ Q (.int n) H
theorem b_len {X : Cx} : CallR X (.builtin "len") (rLen X.K) := call_len
theorem w_lenL (hp : H p = some (.lst xs)) (k : Q (.int xs.length) H) : rLen K [.ref p] H Q := ⟨_, _, rfl, .inl ⟨_, SqL.of hp, rfl⟩, k⟩
theorem w_lenM {α : Type} {f : α → V} {us : List α} (hp : H p = some (.lst (us.map f))) (k : Q (.int us.length) H) : rLen K [.ref p] H Q := ⟨_, _, rfl, .inl ⟨_, SqL.of hp, rfl⟩, by rw [List.length_map]; exact k⟩
theorem w_lenT (hp : H p = some (.tup xs)) (k : Q (.int xs.length) H) : rLen K [.ref p] H Q := ⟨_, _, rfl, .inr ⟨_, .inl (.inl hp), rfl⟩, k⟩
theorem w_lenS (hl : a.length ≤ sizeLine) (k : Q (.int a.length) H) : rLen K [.str a] H Q := ⟨_, _, rfl, ⟨hl, rfl⟩, k⟩
def rAbs : List V → Hp → VK → Prop := fun xs H Q => ∃ i, xs = [.int i] ∧ Q (.int (if i < 0 then -i else i)) H
theorem b_abs {X : Cx} : CallR X (.builtin "abs") rAbs := call_abs
theorem abs_nat (i : Int) : (if i < 0 then -i else i) = (i.natAbs : Int) := by split <;> omega
theorem w_abs (k : Q (.int (i.natAbs : Int)) H) : rAbs [.int i] H Q := ⟨i, rfl, by rw [abs_nat]; exact k⟩
def rMax2 : List V → Hp → VK → Prop := fun xs H Q => ∃ i j, xs = [.int i, .int j] ∧ Q (.int (if j > i then j else i)) H
def rMin2 : List V → Hp → VK → Prop := fun xs H Q => ∃ i j, xs = [.int i, .int j] ∧ Q (.int (if j < i then j else i)) H
theorem b_max2 {X : Cx} (hc : X.calm = true) : CallR X (.builtin "max") rMax2 := call_max2 hc
theorem b_min2 {X : Cx} (hc : X.calm = true) : CallR X (.builtin "min") rMin2 := call_min2 hc
theorem w_max2 (k : Q (.int (max i j)) H) : rMax2 [.int i, .int j] H Q := ⟨i, j, rfl, by rw [show (if j > i then j else i) = max i j by split <;> omega]; exact k⟩
theorem w_min2 (k : Q (.int (min i j)) H) : rMin2 [.int i, .int j] H Q := ⟨i, j, rfl, by rw [show (if j < i then j else i) = min i j by split <;> omega]; exact k⟩
def rInt1 : List V → Hp → VK → Prop := fun xs H Q => (∃ i, xs = [.int i] ∧ Q (.int i) H) ∨ ∃ k, xs = [.bl k] ∧ Q (.int (if k then 1 else 0)) H
theorem b_int {X : Cx} : CallR X (.type "int") rInt1 := call_int1
theorem w_int (k : Q (.int i) H) : rInt1 [.int i] H Q := .inl ⟨i, rfl, k⟩
def rListOf (K : PySem.W.Frag) : List V → Hp → VK → Prop := fun xs H Q => ∃ p ys, xs = [.ref p] ∧ (SqL K H p ys ∨ SqT K H p ys) ∧ ∀ l, H l = none → Q (.ref l) (upd H l (.lst ys))
theorem b_list {X : Cx} : CallR X (.type "list") (rListOf X.K) := call_list_of
theorem w_listL (hp : H p = some (.lst xs)) (k : ∀ l, H l = none → Q (.ref l) (upd H l (.lst xs))) : rListOf K [.ref p] H Q := ⟨p, _, rfl, .inl (SqL.of hp), k⟩
theorem w_listT (hp : H p = some (.tup xs)) (k : ∀ l, H l = none → Q (.ref l) (upd H l (.lst xs))) : rListOf K [.ref p] H Q := ⟨p, _, rfl, .inr (.inl (.inl hp)), k⟩
/-! isinstance -/
section
variable {n : String} {c : Bool}
theorem w_isiI (e : kitB "int" n = some c) (k : Q (.bl c) H) : rIsi K [.int i, .ty n] H Q := ⟨_, _, _, _, c, rfl, .ty n, .base (.int i), kit_ty e, k⟩
theorem w_isiB {d : Bool} (e : kitB "bool" n = some c) (k : Q (.bl c) H) : rIsi K [.bl d, .ty n] H Q := ⟨_, _, _, _, c, rfl, .ty n, .base (.bl d), kit_ty e, k⟩
theorem w_isiS (e : kitB "str" n = some c) (k : Q (.bl c) H) : rIsi K [.str a, .ty n] H Q := ⟨_, _, _, _, c, rfl, .ty n, .base (.str a), kit_ty e, k⟩
theorem w_isiN (e : kitB "NoneType" n = some c) (k : Q (.bl c) H) : rIsi K [.non, .ty n] H Q := ⟨_, _, _, _, c, rfl, .ty n, .base .non, kit_ty e, k⟩
theorem w_isiL (hp : H p = some (.lst xs)) (e : kitB "list" n = some c) (k : Q (.bl c) H) : rIsi K [.ref p, .ty n] H Q := ⟨_, _, _, _, c, rfl, .ty n, .base (.lst hp), kit_ty e, k⟩
theorem w_isiT (hp : H p = some (.tup xs)) (e : kitB "tuple" n = some c) (k : Q (.bl c) H) : rIsi K [.ref p, .ty n] H Q := ⟨_, _, _, _, c, rfl, .ty n, .base (.tup hp), kit_ty e, k⟩
end
theorem kb_ii : kitB "int" "int" = some true := by decide +kernel
theorem kb_ib : kitB "int" "bool" = some false := by decide +kernel
theorem kb_is : kitB "int" "str" = some false := by decide +kernel
theorem kb_il : kitB "int" "list" = some false := by decide +kernel
theorem kb_it : kitB "int" "tuple" = some false := by decide +kernel
theorem kb_bi : kitB "bool" "int" = some true := by decide +kernel
theorem kb_bb : kitB "bool" "bool" = some true := by decide +kernel
theorem kb_bt : kitB "bool" "tuple" = some false := by decide +kernel
theorem kb_ss : kitB "str" "str" = some true := by decide +kernel
theorem kb_si : kitB "str" "int" = some false := by decide +kernel
theorem kb_st : kitB "str" "tuple" = some false := by decide +kernel
theorem kb_sl : kitB "str" "list" = some false := by decide +kernel
theorem kb_ll : kitB "list" "list" = some true := by decide +kernel
theorem kb_lt : kitB "list" "tuple" = some false := by decide +kernel
theorem kb_li : kitB "list" "int" = some false := by decide +kernel
theorem kb_tt : kitB "tuple" "tuple" = some true := by decide +kernel
theorem kb_tl : kitB "tuple" "list" = some false := by decide +kernel
theorem kb_nt : kitB "NoneType" "tuple" = some false := by decide +kernel
theorem kb_ni : kitB "NoneType" "int" = some false := by decide +kernel
theorem kb_nl : kitB "NoneType" "list" = some false := by decide +kernel
theorem kb_ns : kitB "NoneType" "str" = some false := by decide +kernel

/-! truth, tests -/
/-- a value's truth -/
def aTru (K : PySem.W.Frag) : V → Hp → (Bool → Hp → Prop) → Prop := fun x H Q => ∃ k, TruV K x H k ∧ Q k H
def cTru (K : PySem.W.Frag) (ta : TE) : TT := fun σ H Q => ta σ H fun x H' => aTru K x H' Q
theorem pt_tru {X : Cx} {e : Expr} {ta : TE} (ha : PE X e ta) (he : ∀ whole, isTrue e X.env whole = (do let v ← whole; standAt e.pos; holding [v] (truthy v)) := by intro _; rfl) : PT X e (cTru X.K ta) := pt_truth ha he
section
variable {R : Bool → Hp → Prop} {c : Bool}
theorem w_truB (k : R c H) : aTru K (.bl c) H R := ⟨c, rfl, k⟩
theorem w_truI (k : R (i != 0) H) : aTru K (.int i) H R := ⟨_, rfl, k⟩
theorem w_truN (k : R false H) : aTru K .non H R := ⟨_, rfl, k⟩
theorem w_truS (hl : a.length ≤ sizeLine) (k : R ((a.length : Int) != 0) H) : aTru K (.str a) H R := ⟨_, ⟨hl, rfl⟩, k⟩
theorem w_truL (hp : H p = some (.lst xs)) (k : R (!xs.isEmpty) H) : aTru K (.ref p) H R := ⟨_, .inl ⟨_, SqL.of hp, rfl⟩, k⟩
theorem w_truT (hp : H p = some (.tup xs)) (k : R (!xs.isEmpty) H) : aTru K (.ref p) H R := ⟨_, .inr (.inl ⟨_, .inl (.inl hp), rfl⟩), k⟩
end
def aB (x : V) (H : Hp) (R : Bool → Hp → Prop) : Prop := ∃ k, x = .bl k ∧ R k H
def cB (t : TE) : TT := fun σ H Q => t σ H fun x H' => aB x H' Q
theorem pt_cmpA {X : Cx} {op : CmpOp} {r : R2} {e1 e2 : Expr} {ta tb : TE} {pos : Pos} (ho : OpR X (compareOp op) r) (ha : PE X e1 ta) (hb : PE X e2 tb) (hm : behindInMarks op e2 = false) : PT X (.Compare e1 [op] [e2] pos) (cB (tOp r ta tb)) := pt_cmpR ho ha hb hm
theorem pt_chainA {X : Cx} {op op' : CmpOp} {r r' : R2} {e1 e2 e3 : Expr} {ta tb tc : TE} {pos : Pos} (ho : OpR X (compareOp op) r) (ho' : OpR X (compareOp op') r') (ha : PE X e1 ta) (hb : PE X e2 tb) (hc : PE X e3 tc) (hm : lastMarks [op, op'] [e2, e3] = false := by with_unfolding_all rfl) :
    PT X (.Compare e1 [op, op'] [e2, e3] pos) (cB (tChain r r' ta tb tc)) := pt_chain ho ho' ha hb hc hm
theorem w_B {c : Bool} {R : Bool → Hp → Prop} (k : R c H) : aB (.bl c) H R := ⟨c, rfl, k⟩
end
/-! ### ifs -/
section
variable {A B : Prop} {p : Prop} [Decidable p]
theorem w_ite (h1 : p → A) (h2 : ¬p → B) : if decide p = true then A else B := by
  by_cases h : p
  · rw [if_pos (by simpa using h)]; exact h1 h
  · rw [if_neg (by simpa using h)]; exact h2 h
theorem w_iteT (h : p) (k : A) : if decide p = true then A else B := by rw [if_pos (by simpa using h)]; exact k
theorem w_iteF (h : ¬p) (k : B) : if decide p = true then A else B := by rw [if_neg (by simpa using h)]; exact k
theorem w_iteN (h1 : ¬p → A) (h2 : p → B) : if (!decide p) = true then A else B := by
  by_cases h : p
  · rw [if_neg (by simpa using h)]; exact h2 h
  · rw [if_pos (by simpa using h)]; exact h1 h
theorem w_iteNT (h : ¬p) (k : A) : if (!decide p) = true then A else B := by rw [if_pos (by simpa using h)]; exact k
theorem w_iteNF (h : p) (k : B) : if (!decide p) = true then A else B := by rw [if_neg (by simpa using h)]; exact k
theorem w_ite1 (k : A) : if true = true then A else B := by rw [if_pos rfl]; exact k
theorem w_ite0 (k : B) : if false = true then A else B := by rw [if_neg Bool.false_ne_true]; exact k
theorem w_iteb {b : Bool} (h1 : b = true → A) (h2 : b = false → B) : if b = true then A else B := by
  cases b
  · rw [if_neg Bool.false_ne_true]; exact h2 rfl
  · rw [if_pos rfl]; exact h1 rfl
theorem w_itebT {b : Bool} (h : b = true) (k : A) : if b = true then A else B := by rw [if_pos h]; exact k
theorem w_itebF {b : Bool} (h : b = false) (k : B) : if b = true then A else B := by rw [h, if_neg Bool.false_ne_true]; exact k
theorem w_itenb {b : Bool} (h1 : b = false → A) (h2 : b = true → B) : if (!b) = true then A else B := by
  cases b
  · rw [if_pos (by decide)]; exact h1 rfl
  · rw [if_neg (by decide)]; exact h2 rfl
theorem w_itenbT {b : Bool} (h : b = false) (k : A) : if (!b) = true then A else B := by rw [h, if_pos (by decide)]; exact k
theorem w_itenbF {b : Bool} (h : b = true) (k : B) : if (!b) = true then A else B := by rw [h, if_neg (by decide)]; exact k
end
/-! ### structure: what a reading says, one step -/
section
variable {σ σ' : St} {H : Hp} {Q : VK} {D : Ends} {ta tb : TE} {t u : TT} {tl tr : TA} {ts us : TS} {g : TG} {gs : TGs} {r : R2} {i : Nat} {v : V} {K : PySem.W.Frag}
theorem s_var (h : σ[i]? = some (some v)) (k : Q v H) : tVar i σ H Q := ⟨v, h, k⟩
theorem s_c (k : Q v H) : tC v σ H Q := k
theorem s_op (k : ta σ H fun x H1 => tb σ H1 fun y H2 => r x y H2 Q) : tOp r ta tb σ H Q := k
theorem s_un {r : V → Hp → VK → Prop} (k : ta σ H fun x H1 => r x H1 Q) : tUn r ta σ H Q := k
theorem s_nil {Q : List V → Hp → Prop} (k : Q [] H) : tNil σ H Q := k
theorem s_cons {Q : List V → Hp → Prop} (k : ta σ H fun x H1 => tl σ H1 fun xs H2 => Q (x :: xs) H2) : tCons ta tl σ H Q := k
theorem s_callS {sp : Sp} {E : St → XK} (k : tl σ H fun vs H1 => sp vs H1 Q (E σ)) : tCallS sp E tl σ H Q := k
theorem s_CB {r : List V → Hp → VK → Prop} (k : tl σ H fun vs H1 => r vs H1 Q) : tCB r tl σ H Q := k
theorem s_BM {T : String} {r : V → List V → Hp → VK → Prop} (k : ta σ H fun x H1 => tyV K T x H1 ∧ tl σ H1 fun xs H2 => r x xs H2 Q) : tBM K T r ta tl σ H Q := k
theorem s_BM0 {T : String} {r : V → List V → Hp → VK → Prop} (k : ta σ H fun x H1 => tyV K T x H1 ∧ r x [] H1 Q) : tBM0 K T r ta σ H Q := k
theorem s_seq (k : ts { D with nx := us D } σ H) : tSeq ts us D σ H := k
theorem s_next (k : D.nx σ H) : tNext D σ H := k
theorem s_asg (k : ta σ H fun x H1 => g x σ H1 D.nx) : tAsg ta g D σ H := k
theorem s_name {Q : St → Hp → Prop} (e : σ.set i (some v) = σ') (k : Q σ' H) : gName i v σ H Q := by
  show Q (σ.set i (some v)) H
  rw [e]; exact k
theorem s_sub {to ti : TE} {t : TSet} {Q : St → Hp → Prop} (k : to σ H fun o H1 => ti σ H1 fun i H2 => t o i v H2 fun H3 => Q σ H3) : gSub to ti t v σ H Q := k
theorem s_ret (k : ta σ H D.rt) : tRet ta D σ H := k
theorem s_retN (k : D.rt .non H) : tRetN D σ H := k
theorem s_drop (k : ta σ H fun _ H1 => D.nx σ H1) : tDrop ta D σ H := k
theorem s_ifS (k : t σ H fun b H1 => if b = true then ts D σ H1 else us D σ H1) : tIfS t ts us D σ H := k
theorem s_if (k : t σ H fun b H1 => if b = true then ta σ H1 Q else tb σ H1 Q) : tIf t ta tb σ H Q := k
theorem s_tru {Q : Bool → Hp → Prop} (k : ta σ H fun x H1 => aTru K x H1 Q) : cTru K ta σ H Q := k
theorem s_B {Q : Bool → Hp → Prop} (k : ta σ H fun x H1 => aB x H1 Q) : cB ta σ H Q := k
theorem s_and {Q : Bool → Hp → Prop} (k : t σ H fun c H1 => if c = true then u σ H1 Q else Q false H1) : tAnd t u σ H Q := k
theorem s_or {Q : Bool → Hp → Prop} (k : t σ H fun c H1 => if c = true then Q true H1 else u σ H1 Q) : tOr t u σ H Q := k
theorem s_not {Q : Bool → Hp → Prop} (k : t σ H fun c H1 => Q (!c) H1) : tNot t σ H Q := k
theorem s_andV (k : ta σ H fun x H1 => aB x H1 fun c H2 => if c = true then tb σ H2 Q else Q (.bl false) H2) : tAndV ta tb σ H Q := k
theorem s_orV (k : ta σ H fun x H1 => aB x H1 fun c H2 => if c = true then Q (.bl true) H2 else tb σ H2 Q) : tOrV ta tb σ H Q := k
theorem s_notV (k : ta σ H fun x H1 => aB x H1 fun c H2 => Q (.bl (!c)) H2) : tNotV ta σ H Q := k
theorem s_lst (k : tl σ H fun xs H1 => xs.length ≤ sizeLine ∧ ∀ p, H1 p = none → Q (.ref p) (upd H1 p (.lst xs))) : tLst tl σ H Q := k
theorem s_tup (k : tl σ H fun xs H1 => xs.length ≤ sizeLine ∧ ∀ p, H1 p = none → Q (.ref p) (upd H1 p (.tup xs))) : tTup tl σ H Q := k
theorem s_chain {r' : R2} {tc : TE} (k : ta σ H fun x H1 => tb σ H1 fun y H2 => r x y H2 fun z H3 => aB z H3 fun c H4 => if c = true then tc σ H4 fun w' H5 => r' y w' H5 Q else Q (.bl false) H4) : tChain r r' ta tb tc σ H Q := by
  unfold tChain
  have hm := k
  exact k
end
/-! ### slices -/
def rSlA (K : PySem.W.Frag) : V → Option Int → Option Int → Hp → VK → Prop := fun x lo hi H Q => rSlL K x lo hi H Q ∨ rSlS x lo hi H Q ∨ rSlT K x lo hi H Q
theorem sl_any {X : Cx} : SlR X (rSlA X.K) := sl_list.or (sl_str.or sl_tup)
theorem not_mem2 {a b : Addr} {l : List Addr} (h : a ≠ b) (h2 : a ∉ l) : a ∉ b :: l := fun z => by
  rcases List.mem_cons.mp z with z | z
  · exact h z
  · exact h2 z
theorem w_new {n : Nat} {B : Prop} (h : n ≤ sizeLine) (k : B) : n ≤ sizeLine ∧ B := ⟨h, k⟩
/-- the part of a list from lo to hi -/
def cut {α : Type} (xs : List α) (lo hi : Option Int) : List α := (xs.drop (HT.sIx xs.length 0 lo)).take (HT.sIx xs.length xs.length hi - HT.sIx xs.length 0 lo)
theorem cutV_map {α : Type} {f : α → V} {us : List α} {lo hi : Option Int} : cutV (us.map f) lo hi = (cut us lo hi).map f := by
  unfold cutV cut
  rw [List.length_map, List.map_take, List.map_drop]
section
variable {σ : St} {H : Hp} {Q : VK} {te : TE} {K : PySem.W.Frag} {p : Addr} {lo hi : Option Int} {xs : List V} {z : Str}
theorem s_sl {r : V → Option Int → Option Int → Hp → VK → Prop} {tl th : TO} (k : te σ H fun x H1 => tl σ H1 fun l H2 => th σ H2 fun u H3 => r x l u H3 Q) : tSl r te tl th σ H Q := k
theorem s_nopart {R : Option Int → Hp → Prop} (k : R none H) : tNoPart σ H R := k
def aPart (R : Option Int → Hp → Prop) : VK := fun x H1 => ∃ i, x = .int i ∧ R (some i) H1
theorem s_part {R : Option Int → Hp → Prop} (k : te σ H (aPart R)) : tPart te σ H R := k
theorem w_part {i : Int} {R : Option Int → Hp → Prop} (k : R (some i) H) : aPart R (.int i) H := ⟨i, rfl, k⟩
theorem w_slM {α : Type} {f : α → V} {us : List α} (hp : H p = some (.lst (us.map f))) (k : ∀ r, H r = none → Q (.ref r) (upd H r (.lst ((cut us lo hi).map f)))) : rSlA K (.ref p) lo hi H Q :=
  .inl ⟨p, _, rfl, SqL.of hp, fun r hr => by rw [cutV_map]; exact k r hr⟩
theorem w_slL (hp : H p = some (.lst xs)) (k : ∀ r, H r = none → Q (.ref r) (upd H r (.lst (cutV xs lo hi)))) : rSlA K (.ref p) lo hi H Q :=
  .inl ⟨p, _, rfl, SqL.of hp, k⟩
theorem w_slQ {α : Type} {f : α → V} {us : List α} (hp : SqL K H p (us.map f)) (k : ∀ r, H r = none → Q (.ref r) (upd H r (.lst ((cut us lo hi).map f)))) : rSlA K (.ref p) lo hi H Q :=
  .inl ⟨p, _, rfl, hp, fun r hr => by rw [cutV_map]; exact k r hr⟩
theorem w_slS (hl : z.length ≤ sizeLine) (k : Q (.str (cutS z lo hi)) H) : rSlA K (.str z) lo hi H Q := .inr (.inl ⟨z, rfl, hl, k⟩)
end
end Lk
namespace Lk
open PySem PySem.Spec PyProof.Rows L2

/-! ### for -/
/-- what is asked once the iterator J stands -/
def aLoop (J : It) (g : TG) (tb : TS) (D : Ends) (σ : St) (H1 : Hp) : Prop := ∃ W : Nat → Nat → St → Hp → Prop, (∃ m, W 0 m σ H1) ∧ ∀ i m σ H, W i m σ H →
  (J.stop i H ∧ D.nx σ H) ∨ (J.go i H ∧ ∃ N : St → Hp → Prop, (∀ σ' H', N σ' H' → ∃ m', m' < m ∧ W (i + 1) m' σ' H') ∧ ∀ x H', J.yld i H x H' → g x σ H' fun σ2 H2 => tb { D with nx := N, ct := N, bk := D.nx } σ2 H2)
def aRng1 (g : TG) (tb : TS) (D : Ends) (σ : St) (vs : List V) (H1 : Hp) : Prop := ∃ j : Int, vs = [.int j] ∧ -(2 ^ 62) ≤ j ∧ j < 2 ^ 62 ∧ aLoop (Itr 0 j.toNat) g tb D σ H1
def aRng2 (g : TG) (tb : TS) (D : Ends) (σ : St) (vs : List V) (H1 : Hp) : Prop := ∃ i j : Int, vs = [.int i, .int j] ∧ (-(2 ^ 62) ≤ i ∧ i < 2 ^ 62 ∧ -(2 ^ 62) ≤ j ∧ j < 2 ^ 62) ∧ aLoop (Itr i (j - i).toNat) g tb D σ H1
def aFList (K : PySem.W.Frag) (g : TG) (tb : TS) (D : Ends) (σ : St) (x : V) (H1 : Hp) : Prop := ∃ a, x = .ref a ∧ (∃ xs, SqL K H1 a xs) ∧ aLoop (Itl K a) g tb D σ H1
def aFEnum (K : PySem.W.Frag) (g : TG) (tb : TS) (D : Ends) (σ : St) (vs : List V) (H1 : Hp) : Prop := ∃ a xs, vs = [.ref a] ∧ SqL K H1 a xs ∧ aLoop (Ite K a) g tb D σ H1
section
variable {σ : St} {H : Hp} {D : Ends} {g : TG} {tb : TS} {ta : TA} {te : TE} {K : PySem.W.Frag}
theorem s_forR1 (k : ta σ H fun vs H1 => aRng1 g tb D σ vs H1) : tFor (iRng1 ta) g tb D σ H := k
theorem s_forR2 (k : ta σ H fun vs H1 => aRng2 g tb D σ vs H1) : tFor (iRng2 ta) g tb D σ H := k
theorem s_forL (k : te σ H fun x H1 => aFList K g tb D σ x H1) : tFor (iList K te) g tb D σ H := k
theorem s_forE (k : ta σ H fun vs H1 => aFEnum K g tb D σ vs H1) : tFor (iEnum K ta) g tb D σ H := k
variable {nx bk ct : St → Hp → Prop} {rt : VK} {j j' : Nat}
theorem w_rng1 {n : Int} (hn : n < 2 ^ 62 := by omega) (hn' : -(2 ^ 62) ≤ n := by omega) (Pv : Nat → St → Hp → Prop) (h0 : Pv 0 σ H)
    (hs : ∀ (i : Nat) σ' H', (i : Int) < n → Pv i σ' H' → tb ⟨Pv (i + 1), rt, nx, Pv (i + 1)⟩ (σ'.set j (some (.int (i : Int)))) H') (hd : ∀ σ' H', Pv n.toNat σ' H' → nx σ' H') : aRng1 (gName j) tb ⟨nx, rt, bk, ct⟩ σ [.int n] H :=
  ⟨n, rfl, hn', hn, for_range (lo := 0) (n := n.toNat) Pv h0 (fun i σ' H' hi p => by
    show tb ⟨Pv (i + 1), rt, nx, Pv (i + 1)⟩ (σ'.set j (some (.int ((0 : Int) + (i : Int))))) H'
    rw [Int.zero_add]
    exact hs i σ' H' (by omega) p) hd⟩
theorem w_rng2 {lo n : Int} (hl : -(2 ^ 62) ≤ lo := by omega) (hl' : lo < 2 ^ 62 := by omega) (hn : n < 2 ^ 62 := by omega) (hn' : -(2 ^ 62) ≤ n := by omega) (Pv : Nat → St → Hp → Prop) (h0 : Pv 0 σ H)
    (hs : ∀ (i : Nat) σ' H', lo + (i : Int) < n → Pv i σ' H' → tb ⟨Pv (i + 1), rt, nx, Pv (i + 1)⟩ (σ'.set j (some (.int (lo + (i : Int))))) H') (hd : ∀ σ' H', Pv (n - lo).toNat σ' H' → nx σ' H') : aRng2 (gName j) tb ⟨nx, rt, bk, ct⟩ σ [.int lo, .int n] H :=
  ⟨lo, n, rfl, ⟨hl, hl', hn', hn⟩, for_range (lo := lo) (n := (n - lo).toNat) Pv h0 (fun i σ' H' hi p => hs i σ' H' (by omega) p) hd⟩
/-- over a list that stands still; the item is f of us's -/
theorem w_forM {α : Type} {f : α → V} {us : List α} {p : Addr} (hp : H p = some (.lst (us.map f))) (Pv : Nat → St → Hp → Prop) (h0 : Pv 0 σ H) (hl : ∀ i σ' H', i ≤ us.length → Pv i σ' H' → H' p = some (.lst (us.map f)))
    (hs : ∀ (i : Nat) (u : α) σ' H', us[i]? = some u → Pv i σ' H' → g (f u) σ' H' fun σ2 H2 => tb ⟨Pv (i + 1), rt, nx, Pv (i + 1)⟩ σ2 H2) (hd : ∀ σ' H', Pv us.length σ' H' → nx σ' H') : aFList K g tb ⟨nx, rt, bk, ct⟩ σ (.ref p) H :=
  ⟨p, rfl, ⟨_, SqL.of hp⟩, for_list (K := K) (a := p) (xs := us.map f) Pv h0 (fun i σ' H' hi q => SqL.of (hl i σ' H' (by simpa using hi) q)) (fun i x σ' H' hx q => by
    rw [List.getElem?_map] at hx
    cases e : us[i]? with
    | none => rw [e] at hx; cases hx
    | some u =>
      rw [e] at hx
      cases hx
      exact hs i u σ' H' e q) (fun σ' H' q => hd σ' H' (by simpa using q))⟩
/-- a raw list -/
theorem w_forL {xs : List V} {p : Addr} (hp : H p = some (.lst xs)) (Pv : Nat → St → Hp → Prop) (h0 : Pv 0 σ H) (hl : ∀ i σ' H', i ≤ xs.length → Pv i σ' H' → H' p = some (.lst xs))
    (hs : ∀ (i : Nat) (u : V) σ' H', xs[i]? = some u → Pv i σ' H' → g u σ' H' fun σ2 H2 => tb ⟨Pv (i + 1), rt, nx, Pv (i + 1)⟩ σ2 H2) (hd : ∀ σ' H', Pv xs.length σ' H' → nx σ' H') : aFList K g tb ⟨nx, rt, bk, ct⟩ σ (.ref p) H :=
  ⟨p, rfl, ⟨_, SqL.of hp⟩, for_list (K := K) (a := p) (xs := xs) Pv h0 (fun i σ' H' hi q => SqL.of (hl i σ' H' hi q)) hs hd⟩
theorem for_enum {a : Addr} {xs : List V} (Pv : Nat → St → Hp → Prop) (h0 : Pv 0 σ H) (hl : ∀ i σ H, i ≤ xs.length → Pv i σ H → SqL K H a xs)
    (hs : ∀ i x T σ H, xs[i]? = some x → Pv i σ H → H T = none → g (.ref T) σ (upd H T (.tup [.int (i : Nat), x])) fun σ2 H2 => tb { D with nx := Pv (i + 1), ct := Pv (i + 1), bk := D.nx } σ2 H2) (hd : ∀ σ H, Pv xs.length σ H → D.nx σ H) : aLoop (Ite K a) g tb D σ H := by
  refine ⟨fun i m σ H => m = xs.length - i ∧ i ≤ xs.length ∧ Pv i σ H, ⟨xs.length, by simp, Nat.zero_le _, h0⟩, ?_⟩
  rintro i m σ H ⟨rfl, hi, p⟩
  have q := hl i σ H hi p
  by_cases hlt : i < xs.length
  · refine .inr ⟨⟨xs, xs[i], q, by simp [hlt]⟩, Pv (i + 1), fun σ' H' p' => ⟨xs.length - (i + 1), by omega, rfl, hlt, p'⟩, fun x H' y => ?_⟩
    obtain ⟨T, z, e1, e2, e3, y⟩ := y
    subst e1 e3
    exact hs i z T σ _ (y xs q) p e2
  · have e : i = xs.length := by omega
    subst e
    exact .inl ⟨⟨xs, q, Nat.le_refl _⟩, hd σ H p⟩
/-- for i, x in enumerate(xs), i in slot j, x in slot j' -/
theorem w_enumM {α : Type} {f : α → V} {us : List α} {p : Addr} (hp : H p = some (.lst (us.map f))) (Pv : Nat → St → Hp → Prop) (h0 : Pv 0 σ H) (hl : ∀ i σ' H', i ≤ us.length → Pv i σ' H' → H' p = some (.lst (us.map f)))
    (hs : ∀ (i : Nat) (u : α) (T : Addr) σ' H', us[i]? = some u → Pv i σ' H' → H' T = none → tb ⟨Pv (i + 1), rt, nx, Pv (i + 1)⟩ ((σ'.set j (some (.int (i : Int)))).set j' (some (f u))) (upd H' T (.tup [.int (i : Int), f u]))) (hd : ∀ σ' H', Pv us.length σ' H' → nx σ' H') :
    aFEnum K (gTup K 2 (gCons (gName j) (gCons (gName j') gNil))) tb ⟨nx, rt, bk, ct⟩ σ [.ref p] H :=
  ⟨p, _, rfl, SqL.of hp, for_enum (K := K) (a := p) (xs := us.map f) Pv h0 (fun i σ' H' hi q => SqL.of (hl i σ' H' (by simpa using hi) q)) (fun i x T σ' H' hx q hT => by
    rw [List.getElem?_map] at hx
    cases e : us[i]? with
    | none => rw [e] at hx; cases hx
    | some u =>
      rw [e] at hx
      cases hx
      exact ⟨T, _, rfl, .inl (.inl upd_same), rfl, _, _, rfl, _, _, rfl, rfl, hs i u T σ' H' e q hT⟩) (fun σ' H' q => hd σ' H' (by simpa using q))⟩

/-! ### a cut: what follows is shown once -/
def tCut (t u : TS) : TS := fun D σ H => ∃ Mid : St → Hp → Prop, t { D with nx := Mid } σ H ∧ ∀ σ' H', Mid σ' H' → u D σ' H'
theorem pss_cut {X : Cx} {st : Stmt} {rest : List Stmt} {t u : TS} (h1 : PS X st t) (h2 : PSs X rest u) : PSs X (st :: rest) (tCut t u) := by
  refine ⟨fun pins s σ H D I h => ?_⟩
  obtain ⟨Mid, ht, hu⟩ := h
  refine wpAny_execs_cons (thn (h1.run pins s σ H { D with nx := Mid } I ht) fun f s1 q => ?_)
  cases f with
  | next =>
    obtain ⟨σ', H', I', q⟩ := q
    exact h2.run pins s1 σ' H' D I' (hu σ' H' q)
  | ret v => exact q
  | brk => exact q
  | cont => exact q
theorem s_cut {σ : St} {H : Hp} {ts us : TS} {nx bk ct : St → Hp → Prop} {rt : VK} (Mid : St → Hp → Prop) (h1 : ts ⟨Mid, rt, bk, ct⟩ σ H) (h2 : ∀ σ' H', Mid σ' H' → us ⟨nx, rt, bk, ct⟩ σ' H') : tCut ts us ⟨nx, rt, bk, ct⟩ σ H := ⟨Mid, h1, h2⟩
/-! ### while -/
/-- the turn, once the test has come out true -/
def aTurn (Pv : St → Hp → Prop) (μ : St → Hp → Nat) (m : Nat) (tb : TS) (rt : VK) (nx : St → Hp → Prop) (σ : St) (H : Hp) : Prop :=
  ∃ N : St → Hp → Prop, (∀ σ' H', N σ' H' → ∃ m', m' < m ∧ (Pv σ' H' ∧ μ σ' H' = m')) ∧ tb ⟨N, rt, nx, N⟩ σ H
theorem w_turn {Pv : St → Hp → Prop} {μ : St → Hp → Nat} {m : Nat} (k : tb ⟨fun σ' H' => Pv σ' H' ∧ μ σ' H' < m, rt, nx, fun σ' H' => Pv σ' H' ∧ μ σ' H' < m⟩ σ H) : aTurn Pv μ m tb rt nx σ H :=
  ⟨_, fun σ' H' q => ⟨_, q.2, q.1, rfl⟩, k⟩
theorem w_while {c : TT} (Pv : St → Hp → Prop) (μ : St → Hp → Nat) (h0 : Pv σ H) (hs : ∀ σ' H', Pv σ' H' → c σ' H' fun b H1 => if b = true then aTurn Pv μ (μ σ' H') tb rt nx σ' H1 else nx σ' H1) : tWhile c tb ⟨nx, rt, bk, ct⟩ σ H :=
  ⟨fun m σ H => Pv σ H ∧ μ σ H = m, ⟨_, h0, rfl⟩, fun m σ' H' hw => by
    obtain ⟨p, rfl⟩ := hw
    exact hs σ' H' p⟩
end

/-! ### list comprehensions -/
/-- behind a turn: the list at D -/
def cNx (H0 : Hp) (D : Addr) (acc : List V) : Hp → Prop := fun H => Kp [] H0 H ∧ H D = some (.lst acc)
/-- the kept item y goes to the list at D -/
def aKeep (H0 : Hp) (D : Addr) (acc' : List V) : VK := fun y H4 => ∃ acc, H4 D = some (.lst acc) ∧ acc.length < sizeLine ∧ cNx H0 D acc' (upd H4 D (.lst (acc ++ [y])))
section
variable {σ : St} {H : Hp} {g : TG} {tt : TT} {te : TE} {tl : TE} {ta : TA} {K : PySem.W.Frag} {vs : List Nat} {Q : VK}
def aComp (J : It) (g : TG) (tt : TT) (te : TE) (vs : List Nat) (σ : St) (Q : VK) (H1 : Hp) : Prop := ∀ D, H1 D = none → ∃ W : Nat → Nat → Hp → Prop, (∃ m, W 0 m (upd H1 D (.lst []))) ∧ ∀ i m H, W i m H →
  (J.stop i H ∧ Q (.ref D) H) ∨ (J.go i H ∧ ∃ Nx : Hp → Prop, (∀ H', Nx H' → ∃ m', m' < m ∧ W (i + 1) m' H') ∧ ∀ x H', J.yld i H x H' → g x (wipe σ vs) H' fun σ2 H2 => wipe σ2 vs = wipe σ vs ∧ tt σ2 H2 fun b H3 =>
    if b = true then te σ2 H3 fun y H4 => ∃ acc, H4 D = some (.lst acc) ∧ acc.length < sizeLine ∧ Nx (upd H4 D (.lst (acc ++ [y]))) else Nx H3)
def aCList (K : PySem.W.Frag) (g : TG) (tt : TT) (te : TE) (vs : List Nat) (σ : St) (Q : VK) (x : V) (H1 : Hp) : Prop := ∃ a, x = .ref a ∧ (∃ xs, SqL K H1 a xs) ∧ aComp (Itl K a) g tt te vs σ Q H1
def aCR1 (g : TG) (tt : TT) (te : TE) (vs : List Nat) (σ : St) (Q : VK) (us : List V) (H1 : Hp) : Prop := ∃ j : Int, us = [.int j] ∧ -(2 ^ 62) ≤ j ∧ j < 2 ^ 62 ∧ aComp (Itr 0 j.toNat) g tt te vs σ Q H1
def aCR2 (g : TG) (tt : TT) (te : TE) (vs : List Nat) (σ : St) (Q : VK) (us : List V) (H1 : Hp) : Prop := ∃ i j : Int, us = [.int i, .int j] ∧ (-(2 ^ 62) ≤ i ∧ i < 2 ^ 62 ∧ -(2 ^ 62) ≤ j ∧ j < 2 ^ 62) ∧ aComp (Itr i (j - i).toNat) g tt te vs σ Q H1
def aCEnum (K : PySem.W.Frag) (g : TG) (tt : TT) (te : TE) (vs : List Nat) (σ : St) (Q : VK) (us : List V) (H1 : Hp) : Prop := ∃ a xs, us = [.ref a] ∧ SqL K H1 a xs ∧ aComp (Ite K a) g tt te vs σ Q H1
theorem s_lcL (k : tl σ H fun x H1 => aCList K g tt te vs σ Q x H1) : tLc (iList K tl) g tt te vs σ H Q := k
theorem s_lcR1 (k : ta σ H fun us H1 => aCR1 g tt te vs σ Q us H1) : tLc (iRng1 ta) g tt te vs σ H Q := k
theorem s_lcR2 (k : ta σ H fun us H1 => aCR2 g tt te vs σ Q us H1) : tLc (iRng2 ta) g tt te vs σ H Q := k
theorem s_lcE (k : ta σ H fun us H1 => aCEnum K g tt te vs σ Q us H1) : tLc (iEnum K ta) g tt te vs σ H Q := k
theorem fm_snoc {α β : Type} (ψ : α → Option β) {us : List α} {i : Nat} {u : α} (h : us[i]? = some u) : (us.take (i + 1)).filterMap ψ = (us.take i).filterMap ψ ++ (ψ u).toList := by
  have e : us.take (i + 1) = us.take i ++ [u] := by
    rw [List.take_succ, h]; rfl
  rw [e, List.filterMap_append]
  cases q : ψ u <;> simp [List.filterMap_cons, q]
theorem fm_len {α β : Type} (ψ : α → Option β) (us : List α) : (us.filterMap ψ).length ≤ us.length := List.length_filterMap_le _ _
variable {α β : Type} {f : α → V} {f' : β → V}
theorem w_lcM (ψ : α → Option β) {us : List α} {p : Addr} (hp : H p = some (.lst (us.map f))) (hz : us.length < sizeLine)
    (hs : ∀ (D : Addr) (i : Nat) (u : α) (acc : List V) (H' : Hp), H D = none → us[i]? = some u → Kp [] H H' → H' D = some (.lst acc) → acc.length < sizeLine → g (f u) (wipe σ vs) H' fun σ2 H2 => wipe σ2 vs = wipe σ vs ∧ tt σ2 H2 fun b H3 =>
      if b = true then te σ2 H3 (aKeep H D (acc ++ (ψ u).toList.map f')) else cNx H D (acc ++ (ψ u).toList.map f') H3)
    (k : ∀ D H', H D = none → Kp [] H H' → H' D = some (.lst ((us.filterMap ψ).map f')) → Q (.ref D) H') : aCList K g tt te vs σ Q (.ref p) H :=
  ⟨p, rfl, ⟨_, SqL.of hp⟩, fun D hD => lc_list (K := K) (a := p) (xs := us.map f) (fun i => cNx H D (((us.take i).filterMap ψ).map f')) ⟨Kp.refl.new hD, upd_same⟩
    (fun i H' hi q => SqL.of (q.1.at0 hp)) (fun i x H' hx q => by
      rw [List.getElem?_map] at hx
      cases e : us[i]? with
      | none => rw [e] at hx; cases hx
      | some u =>
        rw [e] at hx
        cases hx
        have hl : i < us.length := (List.getElem?_eq_some_iff.mp e).1
        have hlen : (((us.take i).filterMap ψ).map f').length < sizeLine := by
          have := fm_len ψ (us.take i)
          rw [List.length_take] at this
          rw [List.length_map]
          omega
        have h := hs D i u _ H' hD e q.1 q.2 hlen
        have e2 : ((us.take (i + 1)).filterMap ψ).map f' = ((us.take i).filterMap ψ).map f' ++ (ψ u).toList.map f' := by rw [fm_snoc ψ e, List.map_append]
        rw [e2]
        exact h) (fun H' q => k D H' hD q.1 (by
          have := q.2
          rw [List.length_map, List.take_length] at this
          exact this))⟩
theorem w_lcR (ψ : Nat → Option β) {lo n : Int} (hl1 : -(2 ^ 62) ≤ lo) (hl2 : lo < 2 ^ 62) (hn1 : -(2 ^ 62) ≤ n) (hn2 : n < 2 ^ 62) (hz : (n - lo).toNat < sizeLine)
    (hs : ∀ (D : Addr) (i : Nat) (acc : List V) (H' : Hp), H D = none → lo + (i : Int) < n → Kp [] H H' → H' D = some (.lst acc) → acc.length < sizeLine → g (.int (lo + (i : Int))) (wipe σ vs) H' fun σ2 H2 => wipe σ2 vs = wipe σ vs ∧ tt σ2 H2 fun b H3 =>
      if b = true then te σ2 H3 (aKeep H D (acc ++ (ψ i).toList.map f')) else cNx H D (acc ++ (ψ i).toList.map f') H3)
    (k : ∀ D H', H D = none → Kp [] H H' → H' D = some (.lst (((List.range (n - lo).toNat).filterMap ψ).map f')) → Q (.ref D) H') : aComp (Itr lo (n - lo).toNat) g tt te vs σ Q H :=
  fun D hD => lc_range (lo := lo) (n := (n - lo).toNat) (fun i => cNx H D (((List.range i).filterMap ψ).map f')) ⟨Kp.refl.new hD, upd_same⟩ (fun i H' hi q => by
      have hlen : (((List.range i).filterMap ψ).map f').length < sizeLine := by
        have := fm_len ψ (List.range i)
        rw [List.length_range] at this
        rw [List.length_map]
        omega
      have h := hs D i _ H' hD (by omega) q.1 q.2 hlen
      have e2 : ((List.range (i + 1)).filterMap ψ).map f' = ((List.range i).filterMap ψ).map f' ++ (ψ i).toList.map f' := by
        rw [List.range_succ, List.filterMap_append, List.map_append]
        cases q : ψ i <;> simp [List.filterMap_cons, q]
      rw [e2]
      exact h) (fun H' q => k D H' hD q.1 q.2)
theorem w_lcR1 (ψ : Nat → Option β) {n : Int} (hn1 : -(2 ^ 62) ≤ n) (hn2 : n < 2 ^ 62) (hz : n.toNat < sizeLine)
    (hs : ∀ (D : Addr) (i : Nat) (acc : List V) (H' : Hp), H D = none → (i : Int) < n → Kp [] H H' → H' D = some (.lst acc) → acc.length < sizeLine → g (.int (i : Int)) (wipe σ vs) H' fun σ2 H2 => wipe σ2 vs = wipe σ vs ∧ tt σ2 H2 fun b H3 =>
      if b = true then te σ2 H3 (aKeep H D (acc ++ (ψ i).toList.map f')) else cNx H D (acc ++ (ψ i).toList.map f') H3)
    (k : ∀ D H', H D = none → Kp [] H H' → H' D = some (.lst (((List.range n.toNat).filterMap ψ).map f')) → Q (.ref D) H') : aCR1 g tt te vs σ Q [.int n] H := by
  have q := w_lcR (H := H) (g := g) (tt := tt) (te := te) (σ := σ) (vs := vs) (Q := Q) (f' := f') ψ (lo := 0) (n := n) (by omega) (by omega) hn1 hn2 (by simpa using hz) (fun D i acc H' h1 h2 h3 h4 h5 => by
    rw [Int.zero_add]
    exact hs D i acc H' h1 (by omega) h3 h4 h5) (by simpa using k)
  exact ⟨n, rfl, hn1, hn2, by simpa using q⟩
theorem w_lcR2 (ψ : Nat → Option β) {lo n : Int} (hl1 : -(2 ^ 62) ≤ lo) (hl2 : lo < 2 ^ 62) (hn1 : -(2 ^ 62) ≤ n) (hn2 : n < 2 ^ 62) (hz : (n - lo).toNat < sizeLine)
    (hs : ∀ (D : Addr) (i : Nat) (acc : List V) (H' : Hp), H D = none → lo + (i : Int) < n → Kp [] H H' → H' D = some (.lst acc) → acc.length < sizeLine → g (.int (lo + (i : Int))) (wipe σ vs) H' fun σ2 H2 => wipe σ2 vs = wipe σ vs ∧ tt σ2 H2 fun b H3 =>
      if b = true then te σ2 H3 (aKeep H D (acc ++ (ψ i).toList.map f')) else cNx H D (acc ++ (ψ i).toList.map f') H3)
    (k : ∀ D H', H D = none → Kp [] H H' → H' D = some (.lst (((List.range (n - lo).toNat).filterMap ψ).map f')) → Q (.ref D) H') : aCR2 g tt te vs σ Q [.int lo, .int n] H :=
  ⟨lo, n, rfl, ⟨hl1, hl2, hn1, hn2⟩, w_lcR ψ hl1 hl2 hn1 hn2 hz hs k⟩
/-- the item is kept -/
theorem w_keep {D : Addr} {acc : List V} {o : Option β} {b : β} {H4 : Hp} (hk : Kp [] H H4) (hD : H4 D = some (.lst acc)) (hl : acc.length < sizeLine) (hn : H D = none) (e : o = some b) : aKeep H D (acc ++ o.toList.map f') (f' b) H4 := by
  subst e
  exact ⟨acc, hD, hl, hk.own hn, upd_same⟩
theorem w_drop {D : Addr} {acc : List V} {o : Option β} {H4 : Hp} (hk : Kp [] H H4) (hD : H4 D = some (.lst acc)) (e : o = none) : cNx H D (acc ++ o.toList.map f') H4 := by
  subst e
  exact ⟨hk, by simpa using hD⟩
theorem s_yes {Q : Bool → Hp → Prop} (k : Q true H) : tYes σ H Q := k
theorem fm_some {h : α → β} {us : List α} : us.filterMap (fun u => some (h u)) = us.map h := by
  rw [← List.filterMap_eq_map]; rfl
end

/-! ### try, except -/
section
variable {K : PySem.W.Frag} {c cls : Value} {d : Option Addr} {i : Nat} {ts : Addr → Value → Option Addr → TS} {Wout : WX} {nx bk ct : St → Hp → Prop} {rt : VK} {σ : St} {H : Hp}
theorem w_asT (e : PySem.W.exmOne K cls c = some true) (k : ∀ a, H a = none → ts a cls d ⟨fun σ' H' => nx (σ'.set i none) H', rt, fun σ' H' => bk (σ'.set i none) H', fun σ' H' => ct (σ'.set i none) H'⟩ (σ.set i (some (.ref a))) H) : wAs K c i ts Wout ⟨nx, rt, bk, ct⟩ cls d σ H :=
  ⟨true, e, fun _ => k, fun q => Bool.noConfusion q⟩
theorem w_asF {D : Ends} (e : PySem.W.exmOne K cls c = some false) (k : Wout cls d σ H) : wAs K c i ts Wout D cls d σ H :=
  ⟨false, e, fun q => Bool.noConfusion q, fun _ => k⟩
/-- e.f, e the caught exception at a, of the class cls, its dict d -/
def tXfG (K : PySem.W.Frag) (a : Addr) (cls : Value) (d : Option Addr) (f : Str) (te : TE) : TE := fun σ H Q => te σ H fun x H1 => x = .ref a ∧ ∃ (C dd : Addr) (fs : List (Str × V)) (v : V), cls = .ref C ∧ d = some dd ∧ XfC K C ∧ PySem.W.findIn K (.ref C) f = some none ∧ H1 dd = some (.xd fs) ∧ fs.lookup f = some v ∧ Q v H1
theorem pe_xfG {X : Cx} {a : Addr} {oe : Obj} {cls : Value} {d : Option Addr} {pn : List (Addr × Obj)} {e : Expr} {te : TE} {pos : Pos} {n : Str}
    (hz : Zc cls d oe) (hf : ∃ vs, oe.data = .fields vs) (he : PE (X.suite a ((a, oe) :: pn)) e te) (hb : attributeBase e n X.env (eval e X.env) = eval e X.env := by rfl) :
    PE (X.suite a ((a, oe) :: pn)) (.Attribute e n pos) (tXfG X.K a cls d n te) := by
  refine ⟨fun pins s σ H Q I h => ?_⟩
  refine attr_of hb (thn (he.run pins s σ H _ I h) fun u s1 hh => ?_)
  obtain ⟨x, H1, I1, rx, ex, C, dd, fs, v, ec, ed, T, hno, ea, l, q⟩ := hh
  subst ex
  obtain rfl : u = Value.ref a := rx
  subst ec
  subst ed
  obtain ⟨ha, _⟩ := I1.pin (a, oe) (List.mem_append_left _ List.mem_cons_self)
  obtain ⟨vs, hd⟩ := hf
  have hx : ObjOk X.prog X.w H1 s1.heap dd (.xd fs) := I1.hok dd _ ea
  obtain ⟨mA, hns, hr⟩ := hx
  obtain ⟨od, ho, hl⟩ := lookIn_ns hns
  obtain ⟨u, hu, ru⟩ := RelO.some_of (v := v) (o := mA n) (by rw [← l]; exact hr n)
  have J : PySem.W.InstAt s1.heap a oe C (some od) := ⟨ha, hz.1, by unfold PySem.W.notCls; rw [hd] <;> rfl, by rw [hz.2]; exact ho⟩
  exact HandSPX.exc_get I1.kIn J T.ga T.gg T.exC (PySem.W.findObj_own T.hdC hno rfl (by rw [hl, hu])) (handed_of ru) ⟨v, H1, I1.tok _, ru, q⟩
/-- isinstance(e, C) of the caught exception -/
def rIsG (K : PySem.W.Frag) (a : Addr) (cls : Value) (d : Option Addr) : List V → Hp → VK → Prop := fun xs H Q => ∃ (C dd : Addr) (fs : List (Str × V)) (c : V) (cv : Value) (b : Bool), xs = [.ref a, c] ∧ cls = .ref C ∧ d = some dd ∧ H dd = some (.xd fs) ∧ ExcC K C ∧ ClsV c cv ∧ PySem.W.kitOne K (.ref C) cv = some b ∧ Q (.bl b) H
theorem call_isG {X : Cx} {a : Addr} {oe : Obj} {cls : Value} {d : Option Addr} {pn : List (Addr × Obj)} (hz : Zc cls d oe) (hf : ∃ vs, oe.data = .fields vs) : CallR (X.suite a ((a, oe) :: pn)) (.builtin "isinstance") (rIsG X.K a cls d) := by
  intro pins s σ H xs us Q I r h
  obtain ⟨C, dd, fs, c, cv, b, rfl, rfl, rfl, hdd, E, hcv, e, q⟩ := h
  obtain ⟨u1, u2, rfl, r1, r2⟩ := vals2 r
  have e2 := hcv.eq r2
  subst e2
  cases r1
  obtain ⟨ha, _⟩ := I.pin (a, oe) (List.mem_append_left _ List.mem_cons_self)
  obtain ⟨vs, hd⟩ := hf
  have hx : ObjOk X.prog X.w H s.heap dd (.xd fs) := I.hok dd _ hdd
  obtain ⟨mA, hns, hr⟩ := hx
  obtain ⟨od, ho, hl⟩ := lookIn_ns hns
  have J : PySem.W.InstAt s.heap a oe C (some od) := ⟨ha, hz.1, by unfold PySem.W.notCls; rw [hd] <;> rfl, by rw [hz.2]; exact ho⟩
  have hcl : (PySem.W.clsIn X.K C).isSome = true := by
    obtain ⟨cd, hc, _⟩ := PySem.W.any_some E.hd
    rw [hc]; rfl
  exact PySem.W.kia_one (PySem.W.kitx_exc hcl E.hg E.hk E.hs E.ha E.hn E.ht E.hm) I.kIn J e (fun z => nomatch z) fun tk => ⟨.bl b, H, I.kept (t' := tk) fun _ _ z => z, rfl, q⟩
end
/-- in the suite: the exception that is handled has no context -/
theorem hot_suite {X : Cx} {a : Addr} {oe : Obj} {cls : Value} {d : Option Addr} {pn : List (Addr × Obj)} (hz : L2N.Zn cls d oe) (hf : ∃ vs, oe.data = .fields vs) : L2H.HotC (X.suite a ((a, oe) :: pn)) := by
  obtain ⟨vs, hd⟩ := hf
  exact ⟨(a, oe), ⟨rfl, vs, hd, hz.2.2 vs hd⟩, List.mem_cons_self⟩
end Lk
namespace Lk
open PySem PySem.Spec PyProof.Rows L2

/-! ### a op b op c op d -/
def tChain3 (r r' r'' : R2) (ta tb tc td : TE) : TE := fun σ H Q => ta σ H fun x H1 => tb σ H1 fun y H2 => r x y H2 fun z H3 => aB z H3 fun k H3 =>
  if k = true then tc σ H3 fun w' H4 => r' y w' H4 fun z H5 => aB z H5 fun k H5 => if k = true then td σ H5 fun v' H6 => r'' w' v' H6 Q else Q (.bl false) H5 else Q (.bl false) H3
theorem s_chain3 {σ : St} {H : Hp} {Q : VK} {r r' r'' : R2} {ta tb tc td : TE} (k : ta σ H fun x H1 => tb σ H1 fun y H2 => r x y H2 fun z H3 => aB z H3 fun k H3 =>
  if k = true then tc σ H3 fun w' H4 => r' y w' H4 fun z H5 => aB z H5 fun k H5 => if k = true then td σ H5 fun v' H6 => r'' w' v' H6 Q else Q (.bl false) H5 else Q (.bl false) H3) : tChain3 r r' r'' ta tb tc td σ H Q := k
theorem pt_chain3A {X : Cx} {op op' op'' : CmpOp} {r r' r'' : R2} {e1 e2 e3 e4 : Expr} {ta tb tc td : TE} {pos : Pos} (ho : OpR X (compareOp op) r) (ho' : OpR X (compareOp op') r') (ho'' : OpR X (compareOp op'') r'') (ha : PE X e1 ta) (hb : PE X e2 tb) (hc : PE X e3 tc) (hd : PE X e4 td)
    (hm : lastMarks [op, op', op''] [e2, e3, e4] = false := by with_unfolding_all rfl) : PT X (.Compare e1 [op, op', op''] [e2, e3, e4] pos) (cB (tChain3 r r' r'' ta tb tc td)) := by
  refine ⟨fun pins s σ H Q I h => ?_⟩
  refine isTrue_chain (thn (ha.run pins s σ H _ I h) fun v s1 ⟨x, H1, I1, r1, q1⟩ => test_link (thn (hb.run pins s1 σ H1 _ I1 q1) fun u s2 ⟨y, H2, I2, r2, q2⟩ =>
    thn (ho pins s2 σ H2 x y v u _ I2 r1 r2 q2) fun d s3 ⟨z, H3, I3, r3, k, e, q3⟩ => ?_)) hm
  subst e
  cases r3
  refine wpAny_truthy_bool ?_
  cases k with
  | false =>
    obtain ⟨k', e', q'⟩ := q3
    cases e'
    exact ite_ff ⟨H3, I3, q'⟩
  | true =>
    refine ite_tt (test_link (thn (hc.run pins s3 σ H3 _ I3 q3) fun w' s4 ⟨z', H4, I4, r4, q4⟩ => thn (ho' pins s4 σ H4 y z' u w' _ I4 r2 r4 q4) fun d' s5 ⟨z2, H5, I5, r5, k2, e2, q5⟩ => ?_))
    subst e2
    cases r5
    refine wpAny_truthy_bool ?_
    cases k2 with
    | false =>
      obtain ⟨k', e', q'⟩ := q5
      cases e'
      exact ite_ff ⟨H5, I5, q'⟩
    | true =>
      refine ite_tt (test_last (thn (hd.run pins s5 σ H5 _ I5 q5) fun w6 s6 ⟨z6, H6, I6, r6, q6⟩ => thn (ho'' pins s6 σ H6 z' z6 w' w6 _ I6 r4 r6 q6) fun d7 s7 ⟨z7, H7, I7, r7, k7, e7, q7⟩ => ?_))
      subst e7
      cases r7
      exact wpAny_truthy_bool ⟨H7, I7, q7⟩

theorem roomH_units {k : Nat} {A : Around} (r : L2H.RoomH k A) : A.units + 64 < cLine := by have := r.un; omega
theorem roomH_s {j k : Nat} {A A' : Around} (r : L2H.RoomH j A) (h : k ≤ j) (e1 : A'.depth = A.depth) (e2 : A'.units = A.units) : L2H.RoomH k A' :=
  ⟨by have := r.dp; omega, by have := r.un; omega⟩
/-! ### addresses -/
theorem ne_n {H : Hp} {a b : Addr} {o : HO} (h' : H b = none) (h : H a = some o) : a ≠ b := ne_of_none h h'
theorem ne_n' {H : Hp} {a b : Addr} {o : HO} (h' : H a = none) (h : H b = some o) : a ≠ b := Ne.symm (ne_of_none h h')
theorem upd_new {H : Hp} {p a : Addr} {o u : HO} (n : H p = none) (h : H a = some u) : upd H p o a = some u := upd_get (ne_of_none h n) h
/-- another kind of thing was at p -/
theorem upd_kind {H : Hp} {p a : Addr} {o u u' : HO} (hp : H p = some u') (h : H a = some u) (n : u ≠ u') : upd H p o a = some u := upd_get (ne_of h hp n) h
/-! ### members -/
section
variable {i : Int} {p : Addr} {H : Hp} {Q : VK} {us : List Int} {K : PySem.W.Frag}
theorem eqV_int (a b : Int) : eqV (.int a) (.int b) = decide (a = b) := by
  have : eqV (.int a) (.int b) = (a == b) := rfl
  rw [this]; rfl
theorem inV_int : ∀ us : List Int, inV (.int i) (us.map V.int) = decide (i ∈ us)
  | [] => by simp [inV]
  | u :: us => by
    have h := inV_int us
    unfold inV at h ⊢
    rw [List.map_cons, List.any_cons, h, eqV_int]
    by_cases z : u = i
    · simp [z]
    · have z2 : ¬ i = u := fun q => z q.symm
      simp [z, z2]
theorem flat_int : ∀ us : List Int, (us.map V.int).all flatV = true
  | [] => rfl
  | u :: us => by rw [List.map_cons, List.all_cons, flat_int us]; rfl
theorem w_inI (hp : H p = some (.lst (us.map V.int))) (k : Q (.bl (decide (i ∈ us))) H) : rIn K false (.int i) (.ref p) H Q :=
  ⟨p, _, rfl, .inl (SqL.of hp), rfl, flat_int us, by rw [inV_int]; exact k⟩
theorem w_notInI (hp : H p = some (.lst (us.map V.int))) (k : Q (.bl (!decide (i ∈ us))) H) : rIn K true (.int i) (.ref p) H Q :=
  ⟨p, _, rfl, .inl (SqL.of hp), rfl, flat_int us, by rw [inV_int]; exact k⟩
theorem w_eqLI' {ns ms : List Int} {q : Addr} (hp : H p = some (.lst (ns.map V.int))) (hq : H q = some (.lst (ms.map V.int))) (k : Q (.bl (decide (ns = ms))) H) : aEq K (.ref p) (.ref q) H Q := w_eqLI (SqL.of hp) (SqL.of hq) k
theorem w_eqLI0 {ns : List Int} {q : Addr} (hp : H p = some (.lst (ns.map V.int))) (hq : H q = some (.lst [])) (k : Q (.bl (decide (ns = []))) H) : aEq K (.ref p) (.ref q) H Q := w_eqLI (ms := []) (SqL.of hp) (SqL.of hq) k
theorem w_neLI' {ns ms : List Int} {q : Addr} (hp : H p = some (.lst (ns.map V.int))) (hq : H q = some (.lst (ms.map V.int))) (k : Q (.bl (!decide (ns = ms))) H) : aNe K (.ref p) (.ref q) H Q := w_neLI (SqL.of hp) (SqL.of hq) k
theorem w_neLI0 {ns : List Int} {q : Addr} (hp : H p = some (.lst (ns.map V.int))) (hq : H q = some (.lst [])) (k : Q (.bl (!decide (ns = []))) H) : aNe K (.ref p) (.ref q) H Q := w_neLI (ms := []) (SqL.of hp) (SqL.of hq) k
end
/-! ### raise -/
theorem s_mkx {C : Addr} {fs : List Str} {ta : TA} {σ : St} {H : Hp} {Q : XK} (k : ta σ H fun vs H1 => vs.length = fs.length ∧ ∀ d, H1 d = none → Q (.ref C) (some d) (upd H1 d (.xd (fs.zip vs)))) : tMkX C fs ta σ H Q := k
theorem w_and {A B : Prop} (a : A) (b : B) : A ∧ B := ⟨a, b⟩
theorem s_xf {K : PySem.W.Frag} {a : Addr} {cls : Value} {d : Option Addr} {f : Str} {te : TE} {σ : St} {H : Hp} {Q : VK} (k : te σ H fun x H1 => x = .ref a ∧ ∃ (C dd : Addr) (fs : List (Str × V)) (v : V), cls = .ref C ∧ d = some dd ∧ XfC K C ∧ PySem.W.findIn K (.ref C) f = some none ∧ H1 dd = some (.xd fs) ∧ fs.lookup f = some v ∧ Q v H1) : tXfG K a cls d f te σ H Q := k
/-- the exception's field -/
def aXf (K : PySem.W.Frag) (a : Addr) (C : Addr) (dd : Addr) (f : Str) (Q : VK) : VK := fun x H1 => x = .ref a ∧ ∃ (fs : List (Str × V)) (v : V), XfC K C ∧ PySem.W.findIn K (.ref C) f = some none ∧ H1 dd = some (.xd fs) ∧ fs.lookup f = some v ∧ Q v H1
theorem s_xfR {K : PySem.W.Frag} {a C dd : Addr} {f : Str} {te : TE} {σ : St} {H : Hp} {Q : VK} (k : te σ H (aXf K a C dd f Q)) : tXfG K a (.ref C) (some dd) f te σ H Q := by
  have e : (fun x H1 => x = V.ref a ∧ ∃ (C' dd' : Addr) (fs : List (Str × V)) (v : V), Value.ref C = .ref C' ∧ some dd = some dd' ∧ XfC K C' ∧ PySem.W.findIn K (.ref C') f = some none ∧ H1 dd' = some (.xd fs) ∧ fs.lookup f = some v ∧ Q v H1) = aXf K a C dd f Q := by
    funext x H1
    apply propext
    constructor
    · rintro ⟨e, C', dd', fs, v, h1, h2, h3⟩
      cases h1
      cases h2
      exact ⟨e, fs, v, h3⟩
    · rintro ⟨e, fs, v, h3⟩
      exact ⟨e, C, dd, fs, v, rfl, rfl, h3⟩
  unfold tXfG
  rw [e]
  exact k
theorem w_xf {K : PySem.W.Frag} {a C dd : Addr} {f : Str} {H : Hp} {Q : VK} {fs : List (Str × V)} {v : V} (hd : H dd = some (.xd fs)) (hC : XfC K C) (hn : PySem.W.findIn K (.ref C) f = some none) (hl : fs.lookup f = some v) (k : Q v H) : aXf K a C dd f Q (.ref a) H := ⟨rfl, fs, v, hC, hn, hd, hl, k⟩
theorem w_isG {K : PySem.W.Frag} {a C D dd : Addr} {H : Hp} {Q : VK} {fs : List (Str × V)} {b : Bool} (hd : H dd = some (.xd fs)) (E : ExcC K C) (e : PySem.W.kitOne K (.ref C) (.ref D) = some b) (k : Q (.bl b) H) : rIsG K a (.ref C) (some dd) [.ref a, .ref D] H Q :=
  ⟨C, dd, fs, _, _, b, rfl, rfl, rfl, hd, E, .own D, e, k⟩
theorem w_isGv {K : PySem.W.Frag} {a C dd : Addr} {n : String} {H : Hp} {Q : VK} {fs : List (Str × V)} {b : Bool} (hd : H dd = some (.xd fs)) (E : ExcC K C) (e : PySem.W.kitOne K (.ref C) (.type n) = some b) (k : Q (.bl b) H) : rIsG K a (.ref C) (some dd) [.ref a, .ty n] H Q :=
  ⟨C, dd, fs, _, _, b, rfl, rfl, rfl, hd, E, .ty n, e, k⟩

/-! ### lists of pairs of ints -/
/-- xs holds, one by one, tuples of the pairs ps -/
inductive Prs (H : Hp) : List V → List (Int × Int) → Prop
  | nil : Prs H [] []
  | cons {r xs i j ps} : H r = some (.tup [.int i, .int j]) → Prs H xs ps → Prs H (.ref r :: xs) ((i, j) :: ps)
theorem Prs.kp {H H' : Hp} {xs : List V} {ps : List (Int × Int)} (h : Prs H xs ps) (k : ∀ a o, (∃ i j, o = HO.tup [.int i, .int j]) → H a = some o → H' a = some o) : Prs H' xs ps := by
  induction h with
  | nil => exact .nil
  | cons h1 _ ih => exact .cons (k _ _ ⟨_, _, rfl⟩ h1) ih
theorem Prs.len {H : Hp} {xs : List V} {ps : List (Int × Int)} (h : Prs H xs ps) : xs.length = ps.length := by
  induction h with
  | nil => rfl
  | cons _ _ ih => simp [ih]
theorem Prs.snoc {H : Hp} {xs : List V} {ps : List (Int × Int)} {r : Addr} {i j : Int} (h : Prs H xs ps) (e : H r = some (.tup [.int i, .int j])) : Prs H (xs ++ [.ref r]) (ps ++ [(i, j)]) := by
  induction h with
  | nil => exact .cons e .nil
  | cons h1 _ ih => exact .cons h1 ih
theorem Prs.get {H : Hp} {xs : List V} {ps : List (Int × Int)} (h : Prs H xs ps) : ∀ {k : Nat} {p : Int × Int}, ps[k]? = some p → ∃ r, xs[k]? = some (.ref r) ∧ H r = some (.tup [.int p.1, .int p.2]) := by
  induction h with
  | nil => intro k p e; simp at e
  | cons h1 _ ih =>
    intro k p e
    cases k with
    | zero => simp at e; subst e; exact ⟨_, rfl, h1⟩
    | succ k => simpa using ih (by simpa using e)
theorem Prs.new {H : Hp} {xs : List V} {ps : List (Int × Int)} {p : Addr} {o : HO} (h : Prs H xs ps) (hp : H p = none) : Prs (upd H p o) xs ps := h.kp fun a u _ e => by rw [upd_ne (ne_of_none e hp)]; exact e
/-- a list is changed -/
theorem Prs.mut {H : Hp} {xs ys : List V} {ps : List (Int × Int)} {p : Addr} {o : HO} (h : Prs H xs ps) (hp : H p = some (.lst ys)) : Prs (upd H p o) xs ps := h.kp fun a u z e => by
  obtain ⟨i, j, rfl⟩ := z
  rw [upd_ne (ne_of e hp (by intro q; cases q))]; exact e
theorem Prs.kp0 {H H' : Hp} {xs : List V} {ps : List (Int × Int)} (h : Prs H xs ps) (k : Kp [] H H') : Prs H' xs ps := h.kp fun a o _ e => k a o e List.not_mem_nil
theorem Prs.nilI {H : Hp} : Prs H [] [] := .nil
end Lk
namespace Lk
open PySem PySem.W PySem.Spec PyProof.Rows L2
theorem noCX {P : Program} (w : World) (H : L2.Hp) (s : Shared) (e : Value) (s' : Shared) (h : L2N.CX P w [] H s (fun _ _ _ => False) e s') : False := by
  obtain ⟨_, _, _, _, _, _, _, _, _, _, _, _, z⟩ := h
  exact z
section
variable {P : Program} {w : World} {K : Frag} {mg : Str → Option Value} {base : Heap}
theorem FnOk_of {x qual : Str} {st : Stmt} {f : Addr} {fd : FuncData} {N ps : List Str} {k : Nat} {sp : L2.Sp} (F : L2.Fun K x qual st f fd) (S : L2.FnScope N ps (L2.defScope st)) (len : ∀ vs H Q E, sp vs H Q E → vs.length = ps.length)
    (hbody : ∀ (cdv : Value) (A : Around) (outer : List Env) (s : Shared) (H : L2.Hp) (vs : List L2.V) (Q : L2.VK) (E : L2.XK), L2.Room k (A.deeper (envOfC qual (L2.defScope st) s.heap.objs.size f cdv)) → L2N.Takes (L2.cxOf (L2N.CX P w) P w K mg base N qual (L2.defScope st) f cdv A outer s H E) (fun cls d _ H' => E cls d H') →
      PassesOwn (model P w) (L2.cxOf (L2N.CX P w) P w K mg base N qual (L2.defScope st) f cdv A outer s H E).A (L2.cxOf (L2N.CX P w) P w K mg base N qual (L2.defScope st) f cdv A outer s H E).env (L2.cxOf (L2N.CX P w) P w K mg base N qual (L2.defScope st) f cdv A outer s H E).xe → sp vs H Q E →
      ∃ t, L2.PSs (L2.cxOf (L2N.CX P w) P w K mg base N qual (L2.defScope st) f cdv A outer s H E) (L2.defBody st) t ∧ t { nx := fun _ H' => Q .non H', rt := Q } (L2.start N vs) H) : L2.FnOk P w K mg base (L2N.CX P w) (k + 1) f fd ps sp := by
  obtain ⟨oc, od, kV, doc, pm, an, cdv, ct, osl, rfl, lk, hcd⟩ := F.ex
  exact L2.fn_of lk hcd S len fun A outer s H vs Q E hr hsp => hbody cdv A outer s H vs Q E hr (L2N.takes_of rfl rfl rfl rfl) (passes_of rfl) hsp
end
/-- facts of all of a list's members -/
def AllIn (K : Frag) (C : Addr) : List Str → Prop
  | [] => True
  | f :: fs => findIn K (.ref C) f = some none ∧ AllIn K C fs
theorem all_in {K : Frag} {C : Addr} : ∀ {fs : List Str}, AllIn K C fs → ∀ f ∈ fs, findIn K (.ref C) f = some none
  | [], _ => fun f hf => by cases hf
  | g :: fs, h => fun f hf => by
    rcases List.mem_cons.mp hf with z | z
    · rw [z]; exact h.1
    · exact all_in h.2 f z
section
variable {K : Frag} {C D : Addr} {b : Bool}
/-- D is an exception class -/
structure DC (K : Frag) (D : Addr) : Prop where
  i : isClsIn K D = true
  t : typeIn K (.ref D) = some (.type "type")
  b : subIn K (.ref D) (.type "BaseException") = some true
theorem kit_cls' (d : DC K D) (s : subIn K (.ref C) (.ref D) = some b) : kitCls K (.ref C) (.ref D) = some b := by
  have h2' : (clsIn K D).isSome = true := d.i
  have e2 : ((clsIn K D).isSome && typeIn K (.ref D) == some (.type "type")) = true := by
    rw [h2', d.t] <;> rfl
  show (if ((clsIn K D).isSome && typeIn K (.ref D) == some (.type "type")) = true then subIn K (.ref C) (.ref D) else none) = some b
  rw [if_pos e2]
  exact s
theorem kit_mk (d : DC K D) (r : subIn K (.ref C) (.ref C) = some true) (s : subIn K (.ref C) (.ref D) = some b) : kitOne K (.ref C) (.ref D) = some b ∧ exmOne K (.ref C) (.ref D) = some b := by
  have k := kit_cls' d s
  refine ⟨?_, ?_⟩
  · unfold kitOne
    by_cases z : C = D
    · subst z
      rw [r] at s
      rw [← s]
      rw [if_pos (by simp)]
    · rw [if_neg (by simp [z])]
      exact k
  · unfold exmOne
    rw [if_pos (by rw [d.b] <;> rfl)]
    exact k
theorem kit_val (s : subIn K (.ref C) (.type "ValueError") = some true) : kitOne K (.ref C) (.type "ValueError") = some true := by
  have e : kitOne K (.ref C) (.type "ValueError") = if kitMeta "ValueError" = true then subIn K (.ref C) (.type "ValueError") else none := rfl
  rw [e, if_pos (by decide +kernel)]
  exact s
/-- what an own exception's class says -/
theorem exc_ef (hg : findIn K (.ref C) "__getattribute__" = some (some (.builtin "BaseException.__getattribute__"))) (hk : findIn K (.ref C) "__getattr__" = some none) (hs : subIn K (.ref C) (.type "BaseException") = some true) (hd : hasDictIn K C = true)
    (ha : findIn K (.ref C) "__class__" = some (some (.builtin "object.__class__"))) (hn : specialIn K (.builtin "object.__class__") "__get__" = some (some (.builtin "getset_descriptor.__get__"))) (ht : takesIn K (.builtin "object.__class__") = some true) (hm : mroIn K C (.type "object") = some true) : L2.ExcC K C ∧ L2.XfC K C :=
  ⟨⟨hg, hk, hs, hd, ha, hn, ht, hm⟩, ⟨hg, hk, hs, hd⟩⟩
theorem nm_mk {h : Heap} {mg : Str → Option Value} {x : Str} {st : Stmt} {f : Addr} {oc : Value} {od an : Option Addr} {osl : Array (Option Value)} {kV doc pm cdv ct : Value} (X : K.In h) (G : h.Ns mainGlobals mg) (a : nsIn K mainGlobals x = some (some (.ref f)))
    (l : K.lookup f = some ⟨oc, od, .func (fnOf x x (L2.defArgs st) (L2.defBody st) (L2.defScope st) .none kV doc pm an cdv ct), osl⟩) (c : codeIn K cdv x = true) (k : keepIn K (.ref f) = true) :
    Nm K mg x f ∧ L2.Fun K x x st f (fnOf x x (L2.defArgs st) (L2.defBody st) (L2.defScope st) .none kV doc pm an cdv ct) := ⟨⟨mg_of X G a, k⟩, L2.fun_mk l c k⟩
end
end Lk
namespace LkX
open PySem PySem.W PySem.Calls PyProof.Rows PySem.HandSPX
theorem exc_mk {prog : Program} {K : Frag} {C fI : Addr} {fs : List Str} {st : Stmt} {qual : Str} {nm q : Str} {N : Addr} {bs bm : List Value} {sn : List Str} {sub : List Value} {ab : Bool} {col : Option Bool} {dd : Option Addr} {k0 k1 k2 k3 k5 : Option Value}
    {oc : Value} {od : Option Addr} {doc pm : Value} {an : Option Addr} {cda : Addr} {ct : Value} {cc : Addr} {osl : Array (Option Value)} {ccl : Value} {cdd : Option Addr} {cvs : Array Value} {ccs : Array (Option Value)} {file : Str} {tf : Tok} {cl : Value} {cld : Option Addr} {csl : Array (Option Value)} {ar : Arg}
    (iC : findIn K (.ref C) "__init__" = some (some (.ref fI)))
    (xL : K.lookup C = some (excClassObj nm q C N bs bm true sn sub ab col dd k0 k1 k2 k3 k5 "ValueError.__new__"))
    (l : K.lookup fI = some ⟨oc, od, .func (ksFn "__init__" qual (L2.defArgs st) (L2.defBody st) (L2.defScope st) .none .none doc pm an (.ref cda) ct cc), osl⟩) (c : codeIn K (.ref cda) qual = true)
    (l2 : K.lookup cda = some ⟨ccl, cdd, .fields cvs, ccs⟩) (l3 : K.lookup cc = some ⟨cl, cld, .cell (some (.ref C)), csl⟩)
    (sa : findIn K (.ref C) "__setattr__" = some (some (.builtin "object.__setattr__"))) (tI : typeIn K (.ref fI) = some (.type "function")) (kC : keepIn K (.ref C) = true) (exC : subIn K (.ref C) (.type "BaseException") = some true)
    (tyC : typeIn K (.ref C) = some (.type "type")) (vE : subIn K (.ref C) (.type "ValueError") = some true) (op : nsIn K cStatics "thirdparty.any" = some none) (gs : nsIn K mainGlobals "super" = some none)
    (su : ks_superIn K C C "__init__" = some (some (.builtin "ValueError.__init__"))) (bmv : refsVE bm = true) (noN : ∀ f ∈ fs, findIn K (.ref C) f = some none)
    (v2 : cvs[2]? = some (.str file tf)) (fil : ((prog.main.file : Str) == file) = true) (ib : InitBody fs (L2.defBody st)) (hd : ((L2.defArgs st).posonlyargs ++ (L2.defArgs st).args).head? = some ar) (har : ar.arg = "self")
    (s0 : (prog.main.scope.names.lookup ("super" : Str)).isSome = false) (s1 : (L2.defScope st).names.lookup ("super" : Str) = some .globalImplicit) (s2 : (L2.defScope st).names.lookup ("__class__" : Str) = some .free) (s3 : ∀ x ∈ (L2.defScope st).names, x.2 ≠ .cell)
    (s4 : ∀ f ∈ ("self" : Str) :: fs, (L2.defScope st).names.lookup f = some .local) (s5 : (L2.defScope st).isCoroutine = false) (s6 : (L2.defScope st).isGenerator = false) (s7 : (L2.defScope st).kind = .function)
    (ba : ∀ us : List Value, us.length = (("self" : Str) :: fs).length → bindArgs (ksFn "__init__" qual (L2.defArgs st) (L2.defBody st) (L2.defScope st) .none .none doc pm an (.ref cda) ct cc) ⟨us, []⟩ = pure ((("self" : Str) :: fs).zip us))
    (nd : (("self" : Str) :: fs).Nodup) (nb : ∀ f ∈ ("self" : Str) :: fs, (f == ("__debug__" : Str)) = false) (few : fs.length ≤ 100) : ExcTxt prog K C fI fs where
  cls := ⟨nm, q, N, bs, bm, sn, sub, ab, col, dd, k0, k1, k2, k3, k5, xL, bmv⟩
  sa := sa
  noN := noN
  iC := iC
  tI := tI
  kC := kC
  exC := exC
  tyC := tyC
  vE := vE
  su := su
  op := op
  gs := gs
  fn := ⟨qual, _, _, _, oc, od, doc, pm, an, cda, ct, cc, osl, ccl, cdd, cvs, ccs, file, tf, cl, cld, csl, ar, l, c, l2, v2, fil, l3, ib, hd, har, s0, s1, s2, s3, s4, s5, s6, s7, ba⟩
  nd := nd
  nb := nb
  few := few
end LkX
namespace Lk
open PySem PySem.Spec PyProof.Rows L2
local macro_rules | `(tactic| walk_at "hp") => `(tactic| first
  | assumption
  | exact upd_same
  | (refine upd_new ?_ ?_; (· assumption); walk_at "hp")
  | (refine upd_get ?_ ?_; (· walk_at "ne"); walk_at "hp")
  | ((with_reducible show upd _ _ _ _ = _); refine upd_kind (by assumption) (by walk_at "hp") (by intro z; cases z))
  | (refine Kp.at0 (by assumption) ?_; walk_at "hp")
  | (refine Kp.at (by assumption) ?_ ?_; (· walk_at "hp"); (· walk_at "nm")))
local macro_rules | `(tactic| walk_at "ne") => `(tactic| first
  | assumption
  | exact Ne.symm (by assumption)
  | exact ne_n (by assumption) (by walk_at "hp")
  | exact ne_n' (by assumption) (by walk_at "hp"))
local macro_rules | `(tactic| walk_at "nm") => `(tactic| first
  | exact List.not_mem_nil
  | (refine not_mem2 (by walk_at "ne") ?_; walk_at "nm"))
local macro_rules | `(tactic| walk_at "kp") => `(tactic| first
  | exact Kp.refl
  | assumption
  | (refine Kp.new ?_ (by assumption); walk_at "kp")
  | (refine Kp.mut ?_ (by simp); walk_at "kp")
  | (refine Kp.own ?_ (by assumption); walk_at "kp")
  | (refine Kp.trans0 ?_ (by assumption); walk_at "kp")
  | (refine Kp.trans ?_ (by assumption); walk_at "kp"))
local macro_rules | `(tactic| walk_at "num") => `(tactic| first
  | omega
  | (simp only [sizeLine_eq, List.length_map, List.length_append, List.length_cons, List.length_nil, List.length_replicate, List.length_set, List.length_range, CMul, CDivN, CDiv, CPow]; omega)
  | decide)
local macro_rules | `(tactic| walk_at "tst") => `(tactic| first
  | assumption
  | rfl
  | omega)
local macro_rules | `(tactic| walk_at "s") => `(tactic| with_reducible first
  | refine s_seq ?_
  | refine s_var (by with_unfolding_all rfl) ?_
  | refine s_c ?_
  | refine s_op ?_
  | refine s_cons ?_
  | refine s_nil ?_
  | refine s_asg ?_
  | refine s_name (by with_unfolding_all rfl) ?_
  | refine s_sub ?_
  | refine s_callS ?_
  | refine s_CB ?_
  | refine s_BM ?_
  | refine s_BM0 ?_
  | refine s_ret ?_
  | refine s_drop ?_
  | refine s_ifS ?_
  | refine s_B ?_
  | refine s_tru ?_
  | refine s_and ?_
  | refine s_or ?_
  | refine s_not ?_
  | refine s_andV ?_
  | refine s_orV ?_
  | refine s_notV ?_
  | refine s_if ?_
  | refine s_chain ?_
  | refine s_un ?_
  | refine s_lst ?_
  | refine s_tup ?_
  | refine s_sl ?_
  | refine s_nopart ?_
  | refine s_part ?_
  | refine s_next ?_
  | refine s_retN ?_
  | refine s_yes ?_
  | refine s_forR1 ?_
  | refine s_forR2 ?_
  | refine s_forL ?_
  | refine s_forE ?_
  | refine s_lcL ?_
  | refine s_lcR1 ?_
  | refine s_lcR2 ?_
  | refine s_lcE ?_
  | refine s_chain3 ?_
  | refine s_mkx ?_
  | refine s_xfR ?_)
local macro_rules | `(tactic| walk_at "v") => `(tactic| first
  | ((with_reducible show rIx _ _ _ _ _); first  | (refine w_ixM (by walk_at "hp") (by walk_at "num") (by walk_at "num") ?_) | (refine w_ixL (by walk_at "hp") (by walk_at "num") (by first | rfl | assumption) ?_) | (refine w_ixT (by walk_at "hp") (by walk_at "num") (by first | rfl | assumption) ?_))
  | (with_reducible refine w_I0 ?_)
  | ((with_reducible show rI _ _ _ _ _ _); first  | (refine w_I (by walk_at "num") ?_))
  | (with_reducible refine w_B ?_)
  | (with_reducible refine w_truB ?_)
  | (with_reducible refine w_addI ?_)
  | ((with_reducible show aAdd _ _ _ _); first  | (refine w_addLM (by walk_at "hp") (by walk_at "hp") (by walk_at "num") ?_) | (refine w_addL (by walk_at "hp") (by walk_at "hp") (by walk_at "num") ?_) | (refine w_addS (by walk_at "num") ?_))
  | (with_reducible refine w_eqI ?_)
  | (with_reducible refine w_neI ?_)
  | (with_reducible refine w_eqB ?_)
  | (with_reducible refine w_neB ?_)
  | (with_reducible refine w_eqS ?_)
  | (with_reducible refine w_neS ?_)
  | ((with_reducible show rIsG _ _ _ _ _ _ _); first  | (refine w_isG (by walk_at "hp") (by walk_at "ef") (by walk_at "et") ?_) | (refine w_isGv (by walk_at "hp") (by walk_at "ef") (by walk_at "et") ?_))
  | ((with_reducible show aXf _ _ _ _ _ _ _ _); first  | (refine w_xf (by walk_at "hp") (by walk_at "ef") (by walk_at "fi") (by rfl) ?_))
  | ((with_reducible show rIn _ false _ _ _ _); first  | (refine w_inI (by walk_at "hp") ?_))
  | ((with_reducible show rIn _ true _ _ _ _); first  | (refine w_notInI (by walk_at "hp") ?_))
  | ((with_reducible show aEq _ _ _ _ _); first  | (refine w_eqLI' (by walk_at "hp") (by walk_at "hp") ?_) | (refine w_eqLI0 (by walk_at "hp") (by walk_at "hp") ?_))
  | ((with_reducible show aNe _ _ _ _ _); first  | (refine w_neLI' (by walk_at "hp") (by walk_at "hp") ?_) | (refine w_neLI0 (by walk_at "hp") (by walk_at "hp") ?_))
  | (with_reducible refine w_truI ?_)
  | (with_reducible refine w_truN ?_)
  | ((with_reducible show rSetL _ _ _ _ _); first  | (refine w_setMI (by walk_at "hp") (by walk_at "num") (by walk_at "num") ?_) | (refine w_setMB (by walk_at "hp") (by walk_at "num") (by walk_at "num") ?_) | (refine w_setMS (by walk_at "hp") (by walk_at "num") (by walk_at "num") ?_) | (refine w_setL (by walk_at "hp") (by walk_at "num") (by walk_at "num") ?_))
  | ((with_reducible show aMul _ _ _ _); first  | (refine w_mulI (by walk_at "num") ?_) | (refine w_repI (by walk_at "hp") (by walk_at "num") (by walk_at "num") (by walk_at "num") ?_) | (refine w_repB (by walk_at "hp") (by walk_at "num") (by walk_at "num") (by walk_at "num") ?_))
  | ((with_reducible show tyV _ _ _ _ ∧ _); first  | (refine w_tyL (by walk_at "hp") ?_) | (refine w_tyS ?_))
  | ((with_reducible show rAppend _ _ _ _); first  | (refine w_appMI (by walk_at "hp") (by walk_at "num") ?_) | (refine w_appMS (by walk_at "hp") (by walk_at "num") ?_) | (refine w_appMB (by walk_at "hp") (by walk_at "num") ?_) | (refine w_appL (by walk_at "hp") (by walk_at "num") ?_))
  | ((with_reducible show rLen _ _ _ _); first  | (refine w_lenM (by walk_at "hp") ?_) | (refine w_lenL (by walk_at "hp") ?_) | (refine w_lenT (by walk_at "hp") ?_))
  | (with_reducible refine w_abs ?_)
  | (with_reducible refine w_int ?_)
  | ((with_reducible show _ ≤ sizeLine ∧ _); first  | (refine w_new (by walk_at "num") ?_))
  | (with_reducible refine w_U ?_)
  | ((with_reducible show rSlA _ _ _ _ _ _); first  | (refine w_slM (by walk_at "hp") ?_) | (refine w_slL (by walk_at "hp") ?_) | (refine w_slS (by walk_at "num") ?_) | (refine w_slQ (by assumption) ?_))
  | (with_reducible refine w_part ?_)
  | ((with_reducible show rListOf _ _ _ _); first  | (refine w_listL (by walk_at "hp") ?_) | (refine w_listT (by walk_at "hp") ?_))
  | ((with_reducible show rInsert _ _ _ _); first  | (refine w_insMI (by walk_at "hp") (by walk_at "num") (by walk_at "num") (by walk_at "num") ?_) | (refine w_insMS (by walk_at "hp") (by walk_at "num") (by walk_at "num") (by walk_at "num") ?_))
  | ((with_reducible show rReverse _ _ _ _); first  | (refine w_rev (by walk_at "hp") ?_))
  | ((with_reducible show rIsi _ _ _ _); first  | (with_reducible refine w_isiI kb_ii ?_) | (with_reducible refine w_isiI kb_ib ?_) | (with_reducible refine w_isiI kb_is ?_) | (with_reducible refine w_isiI kb_il ?_) | (with_reducible refine w_isiI kb_it ?_) | (with_reducible refine w_isiB kb_bi ?_) | (with_reducible refine w_isiB kb_bb ?_) | (with_reducible refine w_isiB kb_bt ?_) | (with_reducible refine w_isiS kb_ss ?_) | (with_reducible refine w_isiS kb_si ?_) | (with_reducible refine w_isiS kb_st ?_) | (with_reducible refine w_isiS kb_sl ?_) | (with_reducible refine w_isiN kb_nt ?_) | (with_reducible refine w_isiN kb_ni ?_) | (with_reducible refine w_isiN kb_nl ?_) | (with_reducible refine w_isiN kb_ns ?_) | (refine w_isiL (by walk_at "hp") kb_ll ?_) | (refine w_isiT (by walk_at "hp") kb_tt ?_) | (refine w_isiL (by walk_at "hp") kb_lt ?_) | (refine w_isiL (by walk_at "hp") kb_li ?_) | (refine w_isiT (by walk_at "hp") kb_tl ?_))
  | (with_reducible refine w_max2 ?_)
  | (with_reducible refine w_min2 ?_)
  | ((with_reducible show aIsN _ _ _ _); first  | (with_reducible refine w_isN_n ?_) | (with_reducible refine w_isN_i ?_) | (with_reducible refine w_isN_r ?_) | (with_reducible refine w_isN_s ?_))
  | ((with_reducible show aNotN _ _ _ _); first  | (with_reducible refine w_notN_n ?_) | (with_reducible refine w_notN_i ?_) | (with_reducible refine w_notN_r ?_) | (with_reducible refine w_notN_s ?_)))
local macro_rules | `(tactic| walk_at "i") => `(tactic| first
  | (with_reducible refine w_ite1 ?_)
  | (with_reducible refine w_ite0 ?_)
  | ((with_reducible refine w_iteT ?_ ?_); (· walk_at "tst"))
  | ((with_reducible refine w_iteF ?_ ?_); (· walk_at "tst"))
  | ((with_reducible refine w_iteNT ?_ ?_); (· walk_at "tst"))
  | ((with_reducible refine w_iteNF ?_ ?_); (· walk_at "tst"))
  | ((with_reducible refine w_itebT ?_ ?_); (· walk_at "tst"))
  | ((with_reducible refine w_itebF ?_ ?_); (· walk_at "tst"))
  | ((with_reducible refine w_itenbT ?_ ?_); (· walk_at "tst"))
  | ((with_reducible refine w_itenbF ?_ ?_); (· walk_at "tst")))
local macro_rules | `(tactic| walk_at "w") => `(tactic| repeat (first | walk_at "s" | walk_at "v" | walk_at "i" | (with_reducible dsimp only)))
def top (i : Nat) : Stmt := PySem.Challenge.pw_latelink_k01_rows_of_operations.main.body.getD i (.Pass ⟨0, 0, 0, 0⟩)
abbrev s_check_size : Stmt := top 10
abbrev s_check_operation : Stmt := top 11
abbrev s__check_operations : Stmt := top 12
abbrev s__is_legal : Stmt := top 13
abbrev s_first_illegal : Stmt := top 14
abbrev s_strikes : Stmt := top 15
abbrev s_mirror : Stmt := top 16
abbrev s_blocks : Stmt := top 17
abbrev s_block_part : Stmt := top 18
abbrev s__law_box : Stmt := top 20
abbrev s__law_draw : Stmt := top 21
abbrev s__law_is : Stmt := top 22
abbrev s__law_integers : Stmt := top 23
abbrev s__law_size : Stmt := top 24
abbrev s__law_far_size : Stmt := top 25
abbrev s__law_rows : Stmt := top 26
abbrev s__law_bent : Stmt := top 27
abbrev s__law_struck : Stmt := top 28
abbrev s__law_most_kept : Stmt := top 29
abbrev s__law_strikes_right : Stmt := top 30
abbrev s__law_turned : Stmt := top 31
abbrev s__law_mirror_right : Stmt := top 32
abbrev s__law_ranges : Stmt := top 33
abbrev s__law_part_right : Stmt := top 34
abbrev s__law_blocks_right : Stmt := top 35
abbrev s__law_range_right : Stmt := top 36
abbrev s__law_asked : Stmt := top 37
abbrev s__law_operation_refused : Stmt := top 38
abbrev s__law_size_refused : Stmt := top 39
abbrev s_law : Stmt := top 40
abbrev s_BadOperation___init__ : Stmt := inClass (top 3) 0
abbrev s_Illegal___init__ : Stmt := inClass (top 4) 0
abbrev s_Refused___init__ : Stmt := inClass (top 5) 0
abbrev s_BadSize___init__ : Stmt := inClass (top 6) 0
abbrev s_BadRange___init__ : Stmt := inClass (top 7) 0
/-- where things stand -/
structure AD where
  f_check_size : Addr
  f_check_operation : Addr
  f__check_operations : Addr
  f__is_legal : Addr
  f_first_illegal : Addr
  f_strikes : Addr
  f_mirror : Addr
  f_blocks : Addr
  f_block_part : Addr
  f__law_box : Addr
  f__law_draw : Addr
  f__law_is : Addr
  f__law_integers : Addr
  f__law_size : Addr
  f__law_far_size : Addr
  f__law_rows : Addr
  f__law_bent : Addr
  f__law_struck : Addr
  f__law_most_kept : Addr
  f__law_strikes_right : Addr
  f__law_turned : Addr
  f__law_mirror_right : Addr
  f__law_ranges : Addr
  f__law_part_right : Addr
  f__law_blocks_right : Addr
  f__law_range_right : Addr
  f__law_asked : Addr
  f__law_operation_refused : Addr
  f__law_size_refused : Addr
  f_law : Addr
  LinkError : Addr
  LogError : Addr
  BadOperation : Addr
  i_BadOperation : Addr
  Illegal : Addr
  i_Illegal : Addr
  Refused : Addr
  i_Refused : Addr
  BadSize : Addr
  i_BadSize : Addr
  BadRange : Addr
  i_BadRange : Addr
structure Txt (P : Program) (K : PySem.W.Frag) (mg : Str → Option Value) (a : AD) : Prop where
  n_check_size : Nm K mg "check_size" a.f_check_size
  F_check_size : ∃ fd, Fun K "check_size" "check_size" s_check_size a.f_check_size fd ∧ Binds K fd ["size"] []
  n_check_operation : Nm K mg "check_operation" a.f_check_operation
  F_check_operation : ∃ fd, Fun K "check_operation" "check_operation" s_check_operation a.f_check_operation fd ∧ Binds K fd ["size", "operation", "index"] []
  n__check_operations : Nm K mg "_check_operations" a.f__check_operations
  F__check_operations : ∃ fd, Fun K "_check_operations" "_check_operations" s__check_operations a.f__check_operations fd ∧ Binds K fd ["size", "log"] []
  n__is_legal : Nm K mg "_is_legal" a.f__is_legal
  F__is_legal : ∃ fd, Fun K "_is_legal" "_is_legal" s__is_legal a.f__is_legal fd ∧ Binds K fd ["flags", "operation"] []
  n_first_illegal : Nm K mg "first_illegal" a.f_first_illegal
  F_first_illegal : ∃ fd, Fun K "first_illegal" "first_illegal" s_first_illegal a.f_first_illegal fd ∧ Binds K fd ["size", "log"] []
  n_strikes : Nm K mg "strikes" a.f_strikes
  F_strikes : ∃ fd, Fun K "strikes" "strikes" s_strikes a.f_strikes fd ∧ Binds K fd ["size", "log"] []
  n_mirror : Nm K mg "mirror" a.f_mirror
  F_mirror : ∃ fd, Fun K "mirror" "mirror" s_mirror a.f_mirror fd ∧ Binds K fd ["size", "log"] []
  n_blocks : Nm K mg "blocks" a.f_blocks
  F_blocks : ∃ fd, Fun K "blocks" "blocks" s_blocks a.f_blocks fd ∧ Binds K fd ["size", "log"] []
  n_block_part : Nm K mg "block_part" a.f_block_part
  F_block_part : ∃ fd, Fun K "block_part" "block_part" s_block_part a.f_block_part fd ∧ Binds K fd ["size", "log", "low", "high"] []
  n__law_box : Nm K mg "_law_box" a.f__law_box
  F__law_box : ∃ fd, Fun K "_law_box" "_law_box" s__law_box a.f__law_box fd ∧ Binds K fd ["_law_script"] []
  n__law_draw : Nm K mg "_law_draw" a.f__law_draw
  F__law_draw : ∃ fd, Fun K "_law_draw" "_law_draw" s__law_draw a.f__law_draw fd ∧ Binds K fd ["_law_box_here", "_law_many"] []
  n__law_is : Nm K mg "_law_is" a.f__law_is
  F__law_is : ∃ fd, Fun K "_law_is" "_law_is" s__law_is a.f__law_is fd ∧ Binds K fd ["_law_told", "_law_due"] []
  n__law_integers : Nm K mg "_law_integers" a.f__law_integers
  F__law_integers : ∃ fd, Fun K "_law_integers" "_law_integers" s__law_integers a.f__law_integers fd ∧ Binds K fd ["_law_told", "_law_due"] []
  n__law_size : Nm K mg "_law_size" a.f__law_size
  F__law_size : ∃ fd, Fun K "_law_size" "_law_size" s__law_size a.f__law_size fd ∧ Binds K fd ["_law_box_here"] []
  n__law_far_size : Nm K mg "_law_far_size" a.f__law_far_size
  F__law_far_size : ∃ fd, Fun K "_law_far_size" "_law_far_size" s__law_far_size a.f__law_far_size fd ∧ Binds K fd ["_law_box_here"] []
  n__law_rows : Nm K mg "_law_rows" a.f__law_rows
  F__law_rows : ∃ fd, Fun K "_law_rows" "_law_rows" s__law_rows a.f__law_rows fd ∧ Binds K fd ["_law_box_here", "_law_size_here"] []
  n__law_bent : Nm K mg "_law_bent" a.f__law_bent
  F__law_bent : ∃ fd, Fun K "_law_bent" "_law_bent" s__law_bent a.f__law_bent fd ∧ Binds K fd ["_law_box_here", "_law_size_here", "_law_log"] []
  n__law_struck : Nm K mg "_law_struck" a.f__law_struck
  F__law_struck : ∃ fd, Fun K "_law_struck" "_law_struck" s__law_struck a.f__law_struck fd ∧ Binds K fd ["_law_size_here", "_law_log"] []
  n__law_most_kept : Nm K mg "_law_most_kept" a.f__law_most_kept
  F__law_most_kept : ∃ fd, Fun K "_law_most_kept" "_law_most_kept" s__law_most_kept a.f__law_most_kept fd ∧ Binds K fd ["_law_size_here", "_law_log"] []
  n__law_strikes_right : Nm K mg "_law_strikes_right" a.f__law_strikes_right
  F__law_strikes_right : ∃ fd, Fun K "_law_strikes_right" "_law_strikes_right" s__law_strikes_right a.f__law_strikes_right fd ∧ Binds K fd ["_law_size_here", "_law_log"] []
  n__law_turned : Nm K mg "_law_turned" a.f__law_turned
  F__law_turned : ∃ fd, Fun K "_law_turned" "_law_turned" s__law_turned a.f__law_turned fd ∧ Binds K fd ["_law_size_here", "_law_operation"] []
  n__law_mirror_right : Nm K mg "_law_mirror_right" a.f__law_mirror_right
  F__law_mirror_right : ∃ fd, Fun K "_law_mirror_right" "_law_mirror_right" s__law_mirror_right a.f__law_mirror_right fd ∧ Binds K fd ["_law_size_here", "_law_log"] []
  n__law_ranges : Nm K mg "_law_ranges" a.f__law_ranges
  F__law_ranges : ∃ fd, Fun K "_law_ranges" "_law_ranges" s__law_ranges a.f__law_ranges fd ∧ Binds K fd ["_law_size_here", "_law_log"] []
  n__law_part_right : Nm K mg "_law_part_right" a.f__law_part_right
  F__law_part_right : ∃ fd, Fun K "_law_part_right" "_law_part_right" s__law_part_right a.f__law_part_right fd ∧ Binds K fd ["_law_size_here", "_law_log", "_law_low", "_law_high"] []
  n__law_blocks_right : Nm K mg "_law_blocks_right" a.f__law_blocks_right
  F__law_blocks_right : ∃ fd, Fun K "_law_blocks_right" "_law_blocks_right" s__law_blocks_right a.f__law_blocks_right fd ∧ Binds K fd ["_law_size_here", "_law_log"] []
  n__law_range_right : Nm K mg "_law_range_right" a.f__law_range_right
  F__law_range_right : ∃ fd, Fun K "_law_range_right" "_law_range_right" s__law_range_right a.f__law_range_right fd ∧ Binds K fd ["_law_size_here", "_law_log", "_law_low", "_law_high"] []
  n__law_asked : Nm K mg "_law_asked" a.f__law_asked
  F__law_asked : ∃ fd, Fun K "_law_asked" "_law_asked" s__law_asked a.f__law_asked fd ∧ Binds K fd ["_law_way", "_law_size_here", "_law_log", "_law_low", "_law_high"] []
  n__law_operation_refused : Nm K mg "_law_operation_refused" a.f__law_operation_refused
  F__law_operation_refused : ∃ fd, Fun K "_law_operation_refused" "_law_operation_refused" s__law_operation_refused a.f__law_operation_refused fd ∧ Binds K fd ["_law_way", "_law_size_here", "_law_log", "_law_low", "_law_high"] []
  n__law_size_refused : Nm K mg "_law_size_refused" a.f__law_size_refused
  F__law_size_refused : ∃ fd, Fun K "_law_size_refused" "_law_size_refused" s__law_size_refused a.f__law_size_refused fd ∧ Binds K fd ["_law_way", "_law_size_here", "_law_log", "_law_low", "_law_high"] []
  n_law : Nm K mg "law" a.f_law
  F_law : ∃ fd, Fun K "law" "law" s_law a.f_law fd ∧ Binds K fd ["_law_script"] []
  c_LinkError : mg "LinkError" = some (.ref a.LinkError)
  c_LogError : mg "LogError" = some (.ref a.LogError)
  c_BadOperation : mg "BadOperation" = some (.ref a.BadOperation)
  x_BadOperation : LkX.ExcTxt P K a.BadOperation a.i_BadOperation ["operation", "index"]
  e_BadOperation : ExcC K a.BadOperation ∧ XfC K a.BadOperation
  c_Illegal : mg "Illegal" = some (.ref a.Illegal)
  x_Illegal : LkX.ExcTxt P K a.Illegal a.i_Illegal ["operation", "index"]
  e_Illegal : ExcC K a.Illegal ∧ XfC K a.Illegal
  c_Refused : mg "Refused" = some (.ref a.Refused)
  x_Refused : LkX.ExcTxt P K a.Refused a.i_Refused ["operation", "index", "refusing"]
  e_Refused : ExcC K a.Refused ∧ XfC K a.Refused
  c_BadSize : mg "BadSize" = some (.ref a.BadSize)
  x_BadSize : LkX.ExcTxt P K a.BadSize a.i_BadSize ["size"]
  e_BadSize : ExcC K a.BadSize ∧ XfC K a.BadSize
  c_BadRange : mg "BadRange" = some (.ref a.BadRange)
  x_BadRange : LkX.ExcTxt P K a.BadRange a.i_BadRange ["low", "high"]
  e_BadRange : ExcC K a.BadRange ∧ XfC K a.BadRange
  t_BadOperation_LinkError : PySem.W.kitOne K (.ref a.BadOperation) (.ref a.LinkError) = some true ∧ PySem.W.exmOne K (.ref a.BadOperation) (.ref a.LinkError) = some true
  t_BadOperation_LogError : PySem.W.kitOne K (.ref a.BadOperation) (.ref a.LogError) = some true ∧ PySem.W.exmOne K (.ref a.BadOperation) (.ref a.LogError) = some true
  t_BadOperation_BadOperation : PySem.W.kitOne K (.ref a.BadOperation) (.ref a.BadOperation) = some true ∧ PySem.W.exmOne K (.ref a.BadOperation) (.ref a.BadOperation) = some true
  t_BadOperation_Illegal : PySem.W.kitOne K (.ref a.BadOperation) (.ref a.Illegal) = some false ∧ PySem.W.exmOne K (.ref a.BadOperation) (.ref a.Illegal) = some false
  t_BadOperation_Refused : PySem.W.kitOne K (.ref a.BadOperation) (.ref a.Refused) = some false ∧ PySem.W.exmOne K (.ref a.BadOperation) (.ref a.Refused) = some false
  t_BadOperation_BadSize : PySem.W.kitOne K (.ref a.BadOperation) (.ref a.BadSize) = some false ∧ PySem.W.exmOne K (.ref a.BadOperation) (.ref a.BadSize) = some false
  t_BadOperation_BadRange : PySem.W.kitOne K (.ref a.BadOperation) (.ref a.BadRange) = some false ∧ PySem.W.exmOne K (.ref a.BadOperation) (.ref a.BadRange) = some false
  v_BadOperation : PySem.W.kitOne K (.ref a.BadOperation) (.type "ValueError") = some true
  t_Illegal_LinkError : PySem.W.kitOne K (.ref a.Illegal) (.ref a.LinkError) = some true ∧ PySem.W.exmOne K (.ref a.Illegal) (.ref a.LinkError) = some true
  t_Illegal_LogError : PySem.W.kitOne K (.ref a.Illegal) (.ref a.LogError) = some true ∧ PySem.W.exmOne K (.ref a.Illegal) (.ref a.LogError) = some true
  t_Illegal_BadOperation : PySem.W.kitOne K (.ref a.Illegal) (.ref a.BadOperation) = some false ∧ PySem.W.exmOne K (.ref a.Illegal) (.ref a.BadOperation) = some false
  t_Illegal_Illegal : PySem.W.kitOne K (.ref a.Illegal) (.ref a.Illegal) = some true ∧ PySem.W.exmOne K (.ref a.Illegal) (.ref a.Illegal) = some true
  t_Illegal_Refused : PySem.W.kitOne K (.ref a.Illegal) (.ref a.Refused) = some false ∧ PySem.W.exmOne K (.ref a.Illegal) (.ref a.Refused) = some false
  t_Illegal_BadSize : PySem.W.kitOne K (.ref a.Illegal) (.ref a.BadSize) = some false ∧ PySem.W.exmOne K (.ref a.Illegal) (.ref a.BadSize) = some false
  t_Illegal_BadRange : PySem.W.kitOne K (.ref a.Illegal) (.ref a.BadRange) = some false ∧ PySem.W.exmOne K (.ref a.Illegal) (.ref a.BadRange) = some false
  v_Illegal : PySem.W.kitOne K (.ref a.Illegal) (.type "ValueError") = some true
  t_Refused_LinkError : PySem.W.kitOne K (.ref a.Refused) (.ref a.LinkError) = some true ∧ PySem.W.exmOne K (.ref a.Refused) (.ref a.LinkError) = some true
  t_Refused_LogError : PySem.W.kitOne K (.ref a.Refused) (.ref a.LogError) = some true ∧ PySem.W.exmOne K (.ref a.Refused) (.ref a.LogError) = some true
  t_Refused_BadOperation : PySem.W.kitOne K (.ref a.Refused) (.ref a.BadOperation) = some false ∧ PySem.W.exmOne K (.ref a.Refused) (.ref a.BadOperation) = some false
  t_Refused_Illegal : PySem.W.kitOne K (.ref a.Refused) (.ref a.Illegal) = some false ∧ PySem.W.exmOne K (.ref a.Refused) (.ref a.Illegal) = some false
  t_Refused_Refused : PySem.W.kitOne K (.ref a.Refused) (.ref a.Refused) = some true ∧ PySem.W.exmOne K (.ref a.Refused) (.ref a.Refused) = some true
  t_Refused_BadSize : PySem.W.kitOne K (.ref a.Refused) (.ref a.BadSize) = some false ∧ PySem.W.exmOne K (.ref a.Refused) (.ref a.BadSize) = some false
  t_Refused_BadRange : PySem.W.kitOne K (.ref a.Refused) (.ref a.BadRange) = some false ∧ PySem.W.exmOne K (.ref a.Refused) (.ref a.BadRange) = some false
  v_Refused : PySem.W.kitOne K (.ref a.Refused) (.type "ValueError") = some true
  t_BadSize_LinkError : PySem.W.kitOne K (.ref a.BadSize) (.ref a.LinkError) = some true ∧ PySem.W.exmOne K (.ref a.BadSize) (.ref a.LinkError) = some true
  t_BadSize_LogError : PySem.W.kitOne K (.ref a.BadSize) (.ref a.LogError) = some false ∧ PySem.W.exmOne K (.ref a.BadSize) (.ref a.LogError) = some false
  t_BadSize_BadOperation : PySem.W.kitOne K (.ref a.BadSize) (.ref a.BadOperation) = some false ∧ PySem.W.exmOne K (.ref a.BadSize) (.ref a.BadOperation) = some false
  t_BadSize_Illegal : PySem.W.kitOne K (.ref a.BadSize) (.ref a.Illegal) = some false ∧ PySem.W.exmOne K (.ref a.BadSize) (.ref a.Illegal) = some false
  t_BadSize_Refused : PySem.W.kitOne K (.ref a.BadSize) (.ref a.Refused) = some false ∧ PySem.W.exmOne K (.ref a.BadSize) (.ref a.Refused) = some false
  t_BadSize_BadSize : PySem.W.kitOne K (.ref a.BadSize) (.ref a.BadSize) = some true ∧ PySem.W.exmOne K (.ref a.BadSize) (.ref a.BadSize) = some true
  t_BadSize_BadRange : PySem.W.kitOne K (.ref a.BadSize) (.ref a.BadRange) = some false ∧ PySem.W.exmOne K (.ref a.BadSize) (.ref a.BadRange) = some false
  v_BadSize : PySem.W.kitOne K (.ref a.BadSize) (.type "ValueError") = some true
  t_BadRange_LinkError : PySem.W.kitOne K (.ref a.BadRange) (.ref a.LinkError) = some true ∧ PySem.W.exmOne K (.ref a.BadRange) (.ref a.LinkError) = some true
  t_BadRange_LogError : PySem.W.kitOne K (.ref a.BadRange) (.ref a.LogError) = some false ∧ PySem.W.exmOne K (.ref a.BadRange) (.ref a.LogError) = some false
  t_BadRange_BadOperation : PySem.W.kitOne K (.ref a.BadRange) (.ref a.BadOperation) = some false ∧ PySem.W.exmOne K (.ref a.BadRange) (.ref a.BadOperation) = some false
  t_BadRange_Illegal : PySem.W.kitOne K (.ref a.BadRange) (.ref a.Illegal) = some false ∧ PySem.W.exmOne K (.ref a.BadRange) (.ref a.Illegal) = some false
  t_BadRange_Refused : PySem.W.kitOne K (.ref a.BadRange) (.ref a.Refused) = some false ∧ PySem.W.exmOne K (.ref a.BadRange) (.ref a.Refused) = some false
  t_BadRange_BadSize : PySem.W.kitOne K (.ref a.BadRange) (.ref a.BadSize) = some false ∧ PySem.W.exmOne K (.ref a.BadRange) (.ref a.BadSize) = some false
  t_BadRange_BadRange : PySem.W.kitOne K (.ref a.BadRange) (.ref a.BadRange) = some true ∧ PySem.W.exmOne K (.ref a.BadRange) (.ref a.BadRange) = some true
  v_BadRange : PySem.W.kitOne K (.ref a.BadRange) (.type "ValueError") = some true
  b_ValueError : mg "ValueError" = none
  b_enumerate : mg "enumerate" = none
  b_range : mg "range" = none
  b_list : mg "list" = none
  b_int : mg "int" = none
  b_isinstance : mg "isinstance" = none
  b_len : mg "len" = none
  b_abs : mg "abs" = none
  b_bool : mg "bool" = none
  b_max : mg "max" = none
  b_super : mg "super" = none
  b_tuple : mg "tuple" = none
  k_MOST_NODES : ∃ t, mg "MOST_NODES" = some (.int 60 t)
local macro_rules | `(tactic| walk_at "ef") => `(tactic| with_reducible first | exact (Txt.e_BadOperation (by assumption)).1 | exact (Txt.e_BadOperation (by assumption)).2 | exact (Txt.e_Illegal (by assumption)).1 | exact (Txt.e_Illegal (by assumption)).2 | exact (Txt.e_Refused (by assumption)).1 | exact (Txt.e_Refused (by assumption)).2 | exact (Txt.e_BadSize (by assumption)).1 | exact (Txt.e_BadSize (by assumption)).2 | exact (Txt.e_BadRange (by assumption)).1 | exact (Txt.e_BadRange (by assumption)).2)
local macro_rules | `(tactic| walk_at "et") => `(tactic| with_reducible first | exact Txt.v_BadOperation (by assumption) | exact (Txt.t_BadOperation_LinkError (by assumption)).1 | exact (Txt.t_BadOperation_LogError (by assumption)).1 | exact (Txt.t_BadOperation_BadOperation (by assumption)).1 | exact (Txt.t_BadOperation_Illegal (by assumption)).1 | exact (Txt.t_BadOperation_Refused (by assumption)).1 | exact (Txt.t_BadOperation_BadSize (by assumption)).1 | exact (Txt.t_BadOperation_BadRange (by assumption)).1 | exact Txt.v_Illegal (by assumption) | exact (Txt.t_Illegal_LinkError (by assumption)).1 | exact (Txt.t_Illegal_LogError (by assumption)).1 | exact (Txt.t_Illegal_BadOperation (by assumption)).1 | exact (Txt.t_Illegal_Illegal (by assumption)).1 | exact (Txt.t_Illegal_Refused (by assumption)).1 | exact (Txt.t_Illegal_BadSize (by assumption)).1 | exact (Txt.t_Illegal_BadRange (by assumption)).1 | exact Txt.v_Refused (by assumption) | exact (Txt.t_Refused_LinkError (by assumption)).1 | exact (Txt.t_Refused_LogError (by assumption)).1 | exact (Txt.t_Refused_BadOperation (by assumption)).1 | exact (Txt.t_Refused_Illegal (by assumption)).1 | exact (Txt.t_Refused_Refused (by assumption)).1 | exact (Txt.t_Refused_BadSize (by assumption)).1 | exact (Txt.t_Refused_BadRange (by assumption)).1 | exact Txt.v_BadSize (by assumption) | exact (Txt.t_BadSize_LinkError (by assumption)).1 | exact (Txt.t_BadSize_LogError (by assumption)).1 | exact (Txt.t_BadSize_BadOperation (by assumption)).1 | exact (Txt.t_BadSize_Illegal (by assumption)).1 | exact (Txt.t_BadSize_Refused (by assumption)).1 | exact (Txt.t_BadSize_BadSize (by assumption)).1 | exact (Txt.t_BadSize_BadRange (by assumption)).1 | exact Txt.v_BadRange (by assumption) | exact (Txt.t_BadRange_LinkError (by assumption)).1 | exact (Txt.t_BadRange_LogError (by assumption)).1 | exact (Txt.t_BadRange_BadOperation (by assumption)).1 | exact (Txt.t_BadRange_Illegal (by assumption)).1 | exact (Txt.t_BadRange_Refused (by assumption)).1 | exact (Txt.t_BadRange_BadSize (by assumption)).1 | exact (Txt.t_BadRange_BadRange (by assumption)).1)
local macro_rules | `(tactic| walk_at "fi") => `(tactic| with_reducible first | exact (Txt.x_BadOperation (by assumption)).noN _ (by decide) | exact (Txt.x_Illegal (by assumption)).noN _ (by decide) | exact (Txt.x_Refused (by assumption)).noN _ (by decide) | exact (Txt.x_BadSize (by assumption)).noN _ (by decide) | exact (Txt.x_BadRange (by assumption)).noN _ (by decide))
/-! ### what the checks ask -/
def IsOp (n o : Int) : Prop := o ≠ 0 ∧ (o.natAbs : Int) ≤ n
instance (n o : Int) : Decidable (IsOp n o) := inferInstanceAs (Decidable (_ ∧ _))
def xBadSize (a : AD) (n : Int) (E : XK) (H : Hp) : Prop := ∀ d H', H d = none → H' d = some (.xd [("size", .int n)]) → Kp [] H H' → E (.ref a.BadSize) (some d) H'
def xBadOp (a : AD) (o i : Int) (E : XK) (H : Hp) : Prop := ∀ d H', H d = none → H' d = some (.xd [("operation", .int o), ("index", .int i)]) → Kp [] H H' → E (.ref a.BadOperation) (some d) H'
def xBadRange (a : AD) (l h : Int) (E : XK) (H : Hp) : Prop := ∀ d H', H d = none → H' d = some (.xd [("low", .int l), ("high", .int h)]) → Kp [] H H' → E (.ref a.BadRange) (some d) H'
/-- the check of a log -/
def aChk (a : AD) (n : Int) (log : List Int) (H : Hp) (E : XK) (k : Hp → Prop) : Prop :=
  (¬(0 ≤ n ∧ n ≤ 60) → xBadSize a n E H) ∧ (0 ≤ n → n ≤ 60 → ∀ (i : Nat) (o : Int), log[i]? = some o → ¬IsOp n o → (∀ j o', j < i → log[j]? = some o' → IsOp n o') → xBadOp a o i E H) ∧ (0 ≤ n → n ≤ 60 → (∀ o ∈ log, IsOp n o) → ∀ H', Kp [] H H' → k H')
def sp_check_size (a : AD) : Sp := fun vs H Q E => ∃ n : Int, vs = [.int n] ∧ (¬(0 ≤ n ∧ n ≤ 60) → xBadSize a n E H) ∧ (0 ≤ n → n ≤ 60 → Q .non H)
def sp_check_operation (a : AD) : Sp := fun vs H Q E => ∃ n o i : Int, vs = [.int n, .int o, .int i] ∧ (¬IsOp n o → xBadOp a o i E H) ∧ (IsOp n o → Q .non H)
def sp__check_operations (a : AD) : Sp := fun vs H Q E => ∃ (n : Int) (p : Addr) (log : List Int), vs = [.int n, .ref p] ∧ H p = some (.lst (log.map V.int)) ∧ log.length ≤ 1000000 ∧ aChk a n log H E fun H' => Q .non H'
theorem sc_check_size : FnScope ["size"] ["size"] (defScope s_check_size) := ⟨rfl, rfl, rfl, by decide +kernel, rfl, by decide +kernel, by decide +kernel⟩
theorem ok_check_size {P : Program} {w : World} {K : PySem.W.Frag} {mg : Str → Option Value} {base : Heap} {a : AD} (T : Txt P K mg a) : FnA P w K mg base 2 a.f_check_size ["size"] (sp_check_size a) := by
  obtain ⟨fd, F, b⟩ := T.F_check_size
  refine FnA.of F sc_check_size b (fun vs H Q E h => by first | (obtain ⟨rfl, _⟩ := h; rfl) | (obtain ⟨_, rfl, _⟩ := h; rfl) | (obtain ⟨_, _, rfl, _⟩ := h; rfl) | (obtain ⟨_, _, _, rfl, _⟩ := h; rfl) | (obtain ⟨_, _, _, _, rfl, _⟩ := h; rfl) | (obtain ⟨_, _, _, _, _, rfl, _⟩ := h; rfl) | (obtain ⟨_, _, _, _, _, _, rfl, _⟩ := h; rfl)) (fun cdv A outer s H vs Q E hr tk pz h => ?_)
  have hu := hr.units
  have hrH := L2H.roomH_of hr
  obtain ⟨n, rfl, h1, h2⟩ := h
  refine ⟨_, (pss_one (ps_if (pt_not (pt_chainA op_le op_le pe_int (pv 0) (T.k_MOST_NODES.elim fun t hm => pe_glob (v := .int 60) rfl hm ⟨t, rfl⟩))) (pss_one (L2N.ps_raise rfl tk (Lk.pmk_own T.x_BadSize (List.cons_ne_nil _ _) hr T.c_BadSize (by exact (pa_cons (pv 0) pa_nil)) rfl))) pss_nil)), ?_⟩
  show (_ : Ends → L2.St → Hp → Prop) _ [some _] _
  try dsimp only [L2H.cxH, cxOf]
  walk_at "w"
  refine w_ite (fun c1 => ?_) (fun c1 => ?_)
  · walk_at "w"
    refine w_iteN (fun c2 => ?_) (fun c2 => ?_)
    · walk_at "w"
      refine ⟨rfl, fun d hd => h1 (fun z => c2 z.2) d _ hd upd_same (Kp.refl.new hd)⟩
    · walk_at "w"
      exact h2 c1 c2
  · walk_at "w"
    refine ⟨rfl, fun d hd => h1 (fun z => c1 z.1) d _ hd upd_same (Kp.refl.new hd)⟩
theorem sc_check_operation : FnScope ["size", "operation", "index"] ["size", "operation", "index"] (defScope s_check_operation) := ⟨rfl, rfl, rfl, by decide +kernel, rfl, by decide +kernel, by decide +kernel⟩
theorem ok_check_operation {P : Program} {w : World} {K : PySem.W.Frag} {mg : Str → Option Value} {base : Heap} {a : AD} (T : Txt P K mg a) : FnA P w K mg base 2 a.f_check_operation ["size", "operation", "index"] (sp_check_operation a) := by
  obtain ⟨fd, F, b⟩ := T.F_check_operation
  refine FnA.of F sc_check_operation b (fun vs H Q E h => by first | (obtain ⟨rfl, _⟩ := h; rfl) | (obtain ⟨_, rfl, _⟩ := h; rfl) | (obtain ⟨_, _, rfl, _⟩ := h; rfl) | (obtain ⟨_, _, _, rfl, _⟩ := h; rfl) | (obtain ⟨_, _, _, _, rfl, _⟩ := h; rfl) | (obtain ⟨_, _, _, _, _, rfl, _⟩ := h; rfl) | (obtain ⟨_, _, _, _, _, _, rfl, _⟩ := h; rfl)) (fun cdv A outer s H vs Q E hr tk pz h => ?_)
  have hu := hr.units
  have hrH := L2H.roomH_of hr
  obtain ⟨n, o, i, rfl, h1, h2⟩ := h
  refine ⟨_, (pss_one (ps_if (PW.pt (pw_or (pt_cmpA (o_eq hu) (pv 1) pe_int (nomark _)) (pw_or1 (pt_cmpA op_gt (pe_callB (b_abs) rfl T.b_abs (by decide +kernel) (pa_cons (pv 1) pa_nil)) (pv 0) (nomark _))))) (pss_one (L2N.ps_raise rfl tk (Lk.pmk_own T.x_BadOperation (List.cons_ne_nil _ _) hr T.c_BadOperation (by exact (pa_cons (pv 1) (pa_cons (pv 2) pa_nil))) rfl))) pss_nil)), ?_⟩
  show (_ : Ends → L2.St → Hp → Prop) _ [some _, some _, some _] _
  try dsimp only [L2H.cxH, cxOf]
  walk_at "w"
  refine w_ite (fun c1 => ?_) (fun c1 => ?_)
  · walk_at "w"
    refine ⟨rfl, fun d hd => h1 (fun z => z.1 c1) d _ hd upd_same (Kp.refl.new hd)⟩
  · walk_at "w"
    refine w_ite (fun c2 => ?_) (fun c2 => ?_)
    · walk_at "w"
      refine ⟨rfl, fun d hd => h1 (fun z => by have := z.2; omega) d _ hd upd_same (Kp.refl.new hd)⟩
    · walk_at "w"
      exact h2 ⟨c1, by omega⟩
theorem sc__check_operations : FnScope ["size", "log", "index", "operation"] ["size", "log"] (defScope s__check_operations) := ⟨rfl, rfl, rfl, by decide +kernel, rfl, by decide +kernel, by decide +kernel⟩
theorem ok__check_operations {P : Program} {w : World} {K : PySem.W.Frag} {mg : Str → Option Value} {base : Heap} {a : AD} (T : Txt P K mg a) (G_check_size : FnA P w K mg base 2 a.f_check_size ["size"] (sp_check_size a)) (G_check_operation : FnA P w K mg base 2 a.f_check_operation ["size", "operation", "index"] (sp_check_operation a)) : FnA P w K mg base 3 a.f__check_operations ["size", "log"] (sp__check_operations a) := by
  obtain ⟨fd, F, b⟩ := T.F__check_operations
  refine FnA.of F sc__check_operations b (fun vs H Q E h => by first | (obtain ⟨rfl, _⟩ := h; rfl) | (obtain ⟨_, rfl, _⟩ := h; rfl) | (obtain ⟨_, _, rfl, _⟩ := h; rfl) | (obtain ⟨_, _, _, rfl, _⟩ := h; rfl) | (obtain ⟨_, _, _, _, rfl, _⟩ := h; rfl) | (obtain ⟨_, _, _, _, _, rfl, _⟩ := h; rfl) | (obtain ⟨_, _, _, _, _, _, rfl, _⟩ := h; rfl)) (fun cdv A outer s H vs Q E hr tk pz h => ?_)
  have hu := hr.units
  have hrH := L2H.roomH_of hr
  obtain ⟨n, p, log, rfl, hp, hl, h1, h2, h3⟩ := h
  refine ⟨_, (pss_cons (ps_expr (pe_callA G_check_size (Room.mono hr (by decide)) T.n_check_size tk (pa_cons (pv 0) pa_nil)))
      (pss_one (ps_for pz rfl (pi_enum rfl T.b_enumerate (pa_cons (pv 1) pa_nil)) (pg_tup (n := 2) rfl (pgs_cons (pg_name (i := 2) sc__check_operations.nd rfl (Or.inl rfl)) (pgs_cons (pg_name (i := 3) sc__check_operations.nd rfl (Or.inl rfl)) pgs_nil)))
      (pss_one (ps_expr (pe_callA G_check_operation (Room.mono hr (by decide)) T.n_check_operation tk (pa_cons (pv 0) (pa_cons (pv 3) (pa_cons (pv 2) pa_nil))))))))), ?_⟩
  show (_ : Ends → L2.St → Hp → Prop) _ [some _, some _, none, none] _
  try dsimp only [L2H.cxH, cxOf]
  walk_at "w"
  refine ⟨n, rfl, h1, fun n0 n1 => ?_⟩
  walk_at "w"
  refine w_enumM hp (fun i σ' H' => (∃ x y, σ' = [some (.int n), some (.ref p), x, y]) ∧ Kp [] H H' ∧ ∀ j o', j < i → log[j]? = some o' → IsOp n o') ⟨⟨_, _, rfl⟩, Kp.refl, fun j o' hj => by omega⟩ (fun i σ' H' _ q => q.2.1.at0 hp) ?_ ?_
  · rintro i u T σ' H' hu ⟨⟨x, y, rfl⟩, hk, hb⟩ hT
    walk_at "w"
    refine ⟨n, u, i, rfl, fun hx => ?_, fun hx => ?_⟩
    · intro d H2 hd hd2 hk2
      exact h2 n0 n1 i u hu hx hb d H2 (by cases q : H d with
        | none => rfl
        | some o => rw [(hk.new hT).at0 q] at hd; cases hd) hd2 ((hk.new hT).trans hk2)
    · walk_at "w"
      refine ⟨⟨_, _, rfl⟩, hk.new hT, fun j o' hj hjo => ?_⟩
      by_cases z : j < i
      · exact hb j o' z hjo
      · obtain rfl : j = i := by omega
        rw [hu] at hjo
        cases hjo
        exact hx
  · rintro σ' H' ⟨_, hk, hb⟩
    refine h3 n0 n1 (fun o ho => ?_) H' hk
    obtain ⟨j, hj, rfl⟩ := List.getElem_of_mem ho
    exact hb j _ hj (List.getElem?_eq_getElem hj)
/-! ### strikes -/
/-- flags, struck, the next index -/
def stk1 (s : List Bool × List Int × Nat) (o : Int) : List Bool × List Int × Nat :=
  if s.1.getD o.natAbs default = decide (o < 0) then (s.1, s.2.1 ++ [(s.2.2 : Int)], s.2.2 + 1) else (s.1.set o.natAbs (decide (o < 0)), s.2.1, s.2.2 + 1)
def stk0 (n : Int) : List Bool × List Int × Nat := (List.replicate (n + 1).toNat false, [], 0)
def stk (n : Int) (log : List Int) : List Bool × List Int × Nat := log.foldl stk1 (stk0 n)
def struck (n : Int) (log : List Int) : List Int := (stk n log).2.1
theorem take_snoc {α : Type} {us : List α} {i : Nat} {u : α} (h : us[i]? = some u) : us.take (i + 1) = us.take i ++ [u] := by
  rw [List.take_succ, h]; rfl
theorem stk_snoc (n : Int) (l : List Int) (o : Int) : stk n (l ++ [o]) = stk1 (stk n l) o := by
  unfold stk
  rw [List.foldl_append]; rfl
theorem stk_flags (n : Int) (log : List Int) : (stk n log).1.length = (n + 1).toNat := by
  unfold stk
  suffices h : ∀ (l : List Int) (s : List Bool × List Int × Nat), (l.foldl stk1 s).1.length = s.1.length by
    rw [h]; simp [stk0]
  intro l
  induction l with
  | nil => intro s; rfl
  | cons o l ih =>
    intro s
    rw [List.foldl_cons, ih]
    unfold stk1
    split <;> simp
theorem stk_idx (n : Int) (log : List Int) : (stk n log).2.2 = log.length := by
  unfold stk
  suffices h : ∀ (l : List Int) (s : List Bool × List Int × Nat), (l.foldl stk1 s).2.2 = s.2.2 + l.length by
    rw [h]; simp [stk0]
  intro l
  induction l with
  | nil => intro s; rfl
  | cons o l ih =>
    intro s
    rw [List.foldl_cons, ih]
    unfold stk1
    split <;> simp <;> omega
theorem struck_len (n : Int) (log : List Int) : (struck n log).length ≤ log.length := by
  unfold struck stk
  suffices h : ∀ (l : List Int) (s : List Bool × List Int × Nat), (l.foldl stk1 s).2.1.length ≤ s.2.1.length + l.length by
    have := h log (stk0 n)
    simpa [stk0] using this
  intro l
  induction l with
  | nil => intro s; exact Nat.le_refl _
  | cons o l ih =>
    intro s
    rw [List.foldl_cons]
    refine Nat.le_trans (ih _) ?_
    unfold stk1
    split <;> simp <;> omega
theorem mem_of {α : Type} {us : List α} {i : Nat} {u : α} (h : us[i]? = some u) : u ∈ us := List.mem_of_getElem? h
theorem lt_of {α : Type} {us : List α} {i : Nat} {u : α} (h : us[i]? = some u) : i < us.length := (List.getElem?_eq_some_iff.mp h).1
def sp__is_legal (a : AD) : Sp := fun vs H Q E => ∃ (p : Addr) (fs : List Bool) (o : Int), vs = [.ref p, .int o] ∧ H p = some (.lst (fs.map V.bl)) ∧ o.natAbs < fs.length ∧ Q (.bl (!decide (fs.getD o.natAbs default = decide (o < 0)))) H
theorem sc__is_legal : FnScope ["flags", "operation", "is_unlink"] ["flags", "operation"] (defScope s__is_legal) := ⟨rfl, rfl, rfl, by decide +kernel, rfl, by decide +kernel, by decide +kernel⟩
theorem ok__is_legal {P : Program} {w : World} {K : PySem.W.Frag} {mg : Str → Option Value} {base : Heap} {a : AD} (T : Txt P K mg a) : FnA P w K mg base 2 a.f__is_legal ["flags", "operation"] (sp__is_legal a) := by
  obtain ⟨fd, F, b⟩ := T.F__is_legal
  refine FnA.of F sc__is_legal b (fun vs H Q E h => by first | (obtain ⟨rfl, _⟩ := h; rfl) | (obtain ⟨_, rfl, _⟩ := h; rfl) | (obtain ⟨_, _, rfl, _⟩ := h; rfl) | (obtain ⟨_, _, _, rfl, _⟩ := h; rfl) | (obtain ⟨_, _, _, _, rfl, _⟩ := h; rfl) | (obtain ⟨_, _, _, _, _, rfl, _⟩ := h; rfl) | (obtain ⟨_, _, _, _, _, _, rfl, _⟩ := h; rfl)) (fun cdv A outer s H vs Q E hr tk pz h => ?_)
  have hu := hr.units
  have hrH := L2H.roomH_of hr
  obtain ⟨p, fs, o, rfl, hp, hl, k⟩ := h
  refine ⟨_, (pss_cons (ps_set (i := 2) sc__is_legal.nd rfl (Or.inl rfl) (pe_cmpR op_lt (pv 1) pe_int (nomark _)))
      (pss_one (ps_ret (pe_cmpR (o_ne hu) (pe_ix ix_seq (pv 0) (pe_callB (b_abs) rfl T.b_abs (by decide +kernel) (pa_cons (pv 1) pa_nil)) (fun _ _ => rfl)) (pv 2) (nomark _))))), ?_⟩
  show (_ : Ends → L2.St → Hp → Prop) _ [some _, some _, none] _
  try dsimp only [L2H.cxH, cxOf]
  walk_at "w"
  exact k
def sp_strikes (a : AD) : Sp := fun vs H Q E => ∃ (n : Int) (p : Addr) (log : List Int), vs = [.int n, .ref p] ∧ H p = some (.lst (log.map V.int)) ∧ log.length ≤ 1000000 ∧ aChk a n log H E fun H1 => ∀ r H', H r = none → Kp [] H H' → H' r = some (.lst ((struck n log).map V.int)) → Q (.ref r) H'
theorem sc_strikes : FnScope ["size", "log", "flags", "struck", "index", "operation"] ["size", "log"] (defScope s_strikes) := ⟨rfl, rfl, rfl, by decide +kernel, rfl, by decide +kernel, by decide +kernel⟩
theorem ok_strikes {P : Program} {w : World} {K : PySem.W.Frag} {mg : Str → Option Value} {base : Heap} {a : AD} (T : Txt P K mg a) (G__check_operations : FnA P w K mg base 3 a.f__check_operations ["size", "log"] (sp__check_operations a)) (G__is_legal : FnA P w K mg base 2 a.f__is_legal ["flags", "operation"] (sp__is_legal a)) : FnA P w K mg base 4 a.f_strikes ["size", "log"] (sp_strikes a) := by
  obtain ⟨fd, F, b⟩ := T.F_strikes
  refine FnA.of F sc_strikes b (fun vs H Q E h => by first | (obtain ⟨rfl, _⟩ := h; rfl) | (obtain ⟨_, rfl, _⟩ := h; rfl) | (obtain ⟨_, _, rfl, _⟩ := h; rfl) | (obtain ⟨_, _, _, rfl, _⟩ := h; rfl) | (obtain ⟨_, _, _, _, rfl, _⟩ := h; rfl) | (obtain ⟨_, _, _, _, _, rfl, _⟩ := h; rfl) | (obtain ⟨_, _, _, _, _, _, rfl, _⟩ := h; rfl)) (fun cdv A outer s H vs Q E hr tk pz h => ?_)
  have hu := hr.units
  have hrH := L2H.roomH_of hr
  obtain ⟨n, p, log, rfl, hp, hl, h⟩ := h
  refine ⟨_, (pss_cons (ps_expr (pe_callA G__check_operations (Room.mono hr (by decide)) T.n__check_operations tk (pa_cons (pv 0) (pa_cons (pv 1) pa_nil))))
      (pss_cons (ps_set (i := 2) sc_strikes.nd rfl (Or.inl rfl) (pe_op o_mul (pe_lst (pa_cons pe_bl pa_nil)) (pe_op o_add (pv 0) pe_int)))
      (pss_cons (ps_set (i := 3) sc_strikes.nd rfl (Or.inl rfl) (pe_lst pa_nil))
      (pss_cons (ps_for pz rfl (pi_enum rfl T.b_enumerate (pa_cons (pv 1) pa_nil)) (pg_tup (n := 2) rfl (pgs_cons (pg_name (i := 4) sc_strikes.nd rfl (Or.inl rfl)) (pgs_cons (pg_name (i := 5) sc_strikes.nd rfl (Or.inl rfl)) pgs_nil)))
      (pss_one (ps_if (pt_tru (pe_callA G__is_legal (Room.mono hr (by decide)) T.n__is_legal tk (pa_cons (pv 2) (pa_cons (pv 5) pa_nil)))) (pss_one (ps_asg (pe_cmpR op_lt (pv 5) pe_int (nomark _)) (pg_sub (pv 2) (pe_callB (b_abs) rfl T.b_abs (by decide +kernel) (pa_cons (pv 5) pa_nil)) set_list))) (pss_one (ps_expr (pe_bm PySem.F.plainAttrs_list PySem.F.slot_list_append PySem.F.type_list_append mt_append (pv 3) (pa_cons (pv 4) pa_nil)))))))
      (pss_one (ps_ret (pv 3))))))), ?_⟩
  show (_ : Ends → L2.St → Hp → Prop) _ [some _, some _, none, none, none, none] _
  try dsimp only [L2H.cxH, cxOf]
  walk_at "w"
  refine ⟨n, p, log, rfl, hp, hl, h.1, h.2.1, fun n0 n1 hok H1 k1 => ?_⟩
  have k : ∀ r H', H r = none → Kp [] H H' → H' r = some (.lst ((struck n log).map V.int)) → Q (.ref r) H' := h.2.2 n0 n1 hok H1 k1
  walk_at "w"
  intro l0 hl0
  walk_at "w"
  intro fl hfl
  walk_at "w"
  intro st hst
  walk_at "w"
  have hn0 : H st = none := k1.free (upd_nil (upd_nil hst))
  have hf0 : H fl = none := k1.free (upd_nil hfl)
  have hl00 : H l0 = none := k1.free hl0
  have hfs : fl ≠ st := Ne.symm (upd_nel hst)
  refine w_enumM (us := log) (f := V.int) (by walk_at "hp") (fun i σ' H' => (∃ x y, σ' = [some (.int n), some (.ref p), some (.ref fl), some (.ref st), x, y]) ∧ Kp [] H H' ∧ H' fl = some (.lst ((stk n (log.take i)).1.map V.bl)) ∧ H' st = some (.lst ((stk n (log.take i)).2.1.map V.int))) ⟨⟨_, _, rfl⟩, ?_, ?_, ?_⟩ (fun i σ' H' _ q => q.2.1.at0 hp) ?_ ?_
  · exact (((Kp.trans k1 (Kp.refl.new hl0)).own hf0).own hn0)
  · walk_at "hp"
  · exact upd_same
  · rintro i u T σ' H' hu ⟨⟨x, y, rfl⟩, hk, hF, hS⟩ hT
    have hop := hok u (mem_of hu)
    have hul : u.natAbs < (stk n (log.take i)).1.length := by rw [stk_flags]; have := hop.2; omega
    have hsl : (stk n (log.take i)).2.1.length < sizeLine := by
      have h1 := struck_len n (log.take i)
      have h2 := lt_of hu
      unfold struck at h1
      rw [List.length_take] at h1
      rw [sizeLine_eq]; omega
    have e2 : stk n (log.take (i + 1)) = stk1 (stk n (log.take i)) u := by rw [take_snoc hu, stk_snoc]
    have ei : (stk n (log.take i)).2.2 = i := by rw [stk_idx, List.length_take]; have := lt_of hu; omega
    walk_at "w"
    refine ⟨fl, _, u, rfl, upd_get (ne_of_none hF hT) hF, hul, ?_⟩
    walk_at "w"
    refine w_iteN (fun c => ?_) (fun c => ?_)
    · walk_at "w"
      refine ⟨⟨_, _, rfl⟩, ((hk.new hT).own hf0), ?_, ?_⟩
      · rw [upd_same, e2]
        unfold stk1
        rw [if_neg c]
        simp
      · rw [e2]
        unfold stk1
        rw [if_neg c]
        walk_at "hp"
    · walk_at "w"
      refine ⟨⟨_, _, rfl⟩, ((hk.new hT).own hn0), ?_, ?_⟩
      · rw [e2]
        unfold stk1
        rw [if_pos c]
        walk_at "hp"
      · rw [upd_same, e2]
        unfold stk1
        rw [if_pos c, ei]
  · rintro σ' H' ⟨⟨x, y, rfl⟩, hk, hF, hS⟩
    rw [List.take_length] at hS
    walk_at "w"
    exact k st H' hn0 hk hS
def firstV : List Int → V
  | [] => .non
  | i :: _ => .int i
def sp_first_illegal (a : AD) : Sp := fun vs H Q E => ∃ (n : Int) (p : Addr) (log : List Int), vs = [.int n, .ref p] ∧ H p = some (.lst (log.map V.int)) ∧ log.length ≤ 1000000 ∧ aChk a n log H E fun H1 => ∀ H', Kp [] H H' → Q (firstV (struck n log)) H'
theorem sc_first_illegal : FnScope ["size", "log", "struck"] ["size", "log"] (defScope s_first_illegal) := ⟨rfl, rfl, rfl, by decide +kernel, rfl, by decide +kernel, by decide +kernel⟩
theorem ok_first_illegal {P : Program} {w : World} {K : PySem.W.Frag} {mg : Str → Option Value} {base : Heap} {a : AD} (T : Txt P K mg a) (G_strikes : FnA P w K mg base 4 a.f_strikes ["size", "log"] (sp_strikes a)) : FnA P w K mg base 5 a.f_first_illegal ["size", "log"] (sp_first_illegal a) := by
  obtain ⟨fd, F, b⟩ := T.F_first_illegal
  refine FnA.of F sc_first_illegal b (fun vs H Q E h => by first | (obtain ⟨rfl, _⟩ := h; rfl) | (obtain ⟨_, rfl, _⟩ := h; rfl) | (obtain ⟨_, _, rfl, _⟩ := h; rfl) | (obtain ⟨_, _, _, rfl, _⟩ := h; rfl) | (obtain ⟨_, _, _, _, rfl, _⟩ := h; rfl) | (obtain ⟨_, _, _, _, _, rfl, _⟩ := h; rfl) | (obtain ⟨_, _, _, _, _, _, rfl, _⟩ := h; rfl)) (fun cdv A outer s H vs Q E hr tk pz h => ?_)
  have hu := hr.units
  have hrH := L2H.roomH_of hr
  obtain ⟨n, p, log, rfl, hp, hl, h⟩ := h
  refine ⟨_, (pss_cons (ps_set (i := 2) sc_first_illegal.nd rfl (Or.inl rfl) (pe_callA G_strikes (Room.mono hr (by decide)) T.n_strikes tk (pa_cons (pv 0) (pa_cons (pv 1) pa_nil))))
      (pss_one (ps_ret (pe_ifExp (pt_cmpA op_gt (pe_callB (b_len) rfl T.b_len (by decide +kernel) (pa_cons (pv 2) pa_nil)) pe_int (nomark _)) (pe_ix ix_seq (pv 2) pe_int (fun _ _ => rfl)) pe_non)))), ?_⟩
  show (_ : Ends → L2.St → Hp → Prop) _ [some _, some _, none] _
  try dsimp only [L2H.cxH, cxOf]
  walk_at "w"
  refine ⟨n, p, log, rfl, hp, hl, h.1, h.2.1, fun n0 n1 hok H1 k1 r H2 hr k2 hr2 => ?_⟩
  have k : ∀ H', Kp [] H H' → Q (firstV (struck n log)) H' := h.2.2 n0 n1 hok H1 k1
  walk_at "w"
  refine w_ite (fun c => ?_) (fun c => ?_)
  · walk_at "w"
    have e : firstV (struck n log) = V.int ((struck n log).getD 0 default) := by
      cases q : struck n log with
      | nil => rw [q] at c; simp at c
      | cons i l => rfl
    rw [e] at k
    exact k H2 k2
  · walk_at "w"
    have e : firstV (struck n log) = V.non := by
      cases q : struck n log with
      | nil => rfl
      | cons i l => rw [q] at c; simp at c
    rw [e] at k
    exact k H2 k2
def mir1 (n o : Int) : Int := if o > 0 then n + 1 - o else -(n + 1) - o
def sp_mirror (a : AD) : Sp := fun vs H Q E => ∃ (n : Int) (p : Addr) (log : List Int), vs = [.int n, .ref p] ∧ H p = some (.lst (log.map V.int)) ∧ log.length ≤ 1000000 ∧ aChk a n log H E fun H1 => ∀ r H', H r = none → Kp [] H H' → H' r = some (.lst ((log.map (mir1 n)).map V.int)) → Q (.ref r) H'
theorem sc_mirror : FnScope ["size", "log", "top", "operation"] ["size", "log"] (defScope s_mirror) := ⟨rfl, rfl, rfl, by decide +kernel, rfl, by decide +kernel, by decide +kernel⟩
theorem ok_mirror {P : Program} {w : World} {K : PySem.W.Frag} {mg : Str → Option Value} {base : Heap} {a : AD} (T : Txt P K mg a) (G__check_operations : FnA P w K mg base 3 a.f__check_operations ["size", "log"] (sp__check_operations a)) : FnA P w K mg base 4 a.f_mirror ["size", "log"] (sp_mirror a) := by
  obtain ⟨fd, F, b⟩ := T.F_mirror
  refine FnA.of F sc_mirror b (fun vs H Q E h => by first | (obtain ⟨rfl, _⟩ := h; rfl) | (obtain ⟨_, rfl, _⟩ := h; rfl) | (obtain ⟨_, _, rfl, _⟩ := h; rfl) | (obtain ⟨_, _, _, rfl, _⟩ := h; rfl) | (obtain ⟨_, _, _, _, rfl, _⟩ := h; rfl) | (obtain ⟨_, _, _, _, _, rfl, _⟩ := h; rfl) | (obtain ⟨_, _, _, _, _, _, rfl, _⟩ := h; rfl)) (fun cdv A outer s H vs Q E hr tk pz h => ?_)
  have hu := hr.units
  have hrH := L2H.roomH_of hr
  obtain ⟨n, p, log, rfl, hp, hl, h⟩ := h
  refine ⟨_, (pss_cons (ps_expr (pe_callA G__check_operations (Room.mono hr (by decide)) T.n__check_operations tk (pa_cons (pv 0) (pa_cons (pv 1) pa_nil))))
      (pss_cons (ps_set (i := 2) sc_mirror.nd rfl (Or.inr rfl) (pe_op o_add (pv 0) pe_int))
      (pss_one (ps_ret (pe_lc (own := [("operation", 3)]) (g := (gName 3)) (tt := tYes) rfl sc_mirror.nd (pi_list (pv 1)) (blkOk_by (own := [("operation", 3)]) (N := ["size", "log", "top", "operation"]) (sc := defScope s_mirror) (by decide +kernel)) (fun _ _ _ _ _ => (pg_name (i := 3) sc_mirror.nd rfl (Or.inl rfl))) (fun _ _ _ _ _ => pts_nil) (fun _ _ _ _ _ => (pe_ifExp (pt_cmpA op_gt (pv 3) pe_int (nomark _)) (pe_op op_sub (pv 2) (pv 3)) (pe_op op_sub (pe_un un_neg (pv 2)) (pv 3))))))))), ?_⟩
  show (_ : Ends → L2.St → Hp → Prop) _ [some _, some _, none, none] _
  try dsimp only [L2H.cxH, cxOf]
  walk_at "w"
  refine ⟨n, p, log, rfl, hp, hl, h.1, h.2.1, fun n0 n1 hok H1 k1 => ?_⟩
  have k : ∀ r H', H r = none → Kp [] H H' → H' r = some (.lst ((log.map (mir1 n)).map V.int)) → Q (.ref r) H' := h.2.2 n0 n1 hok H1 k1
  walk_at "w"
  refine w_lcM (us := log) (f := V.int) (f' := V.int) (fun o => some (mir1 n o)) (k1.at0 hp) (by rw [sizeLine_eq]; omega) ?_ ?_
  · intro D i u acc H' hD hu hk hA hlen
    walk_at "w"
    refine ⟨rfl, ?_⟩
    walk_at "w"
    refine w_ite (fun c => ?_) (fun c => ?_)
    · walk_at "w"
      exact w_keep hk hA hlen hD (by rw [mir1, if_pos c])
    · walk_at "w"
      exact w_keep hk hA hlen hD (by rw [mir1, if_neg c])
  · intro D H' hD hk hA
    rw [fm_some] at hA
    exact k D H' (k1.free hD) (k1.trans hk) hA
/-- which nodes act -/
def actF (n : Int) (log : List Int) : List Bool := log.foldl (fun fs o => fs.set o.natAbs true) (List.replicate (n + 2).toNat false)
theorem actF_snoc (n : Int) (l : List Int) (o : Int) : actF n (l ++ [o]) = (actF n l).set o.natAbs true := by
  unfold actF
  rw [List.foldl_append]; rfl
theorem actF_len (n : Int) (log : List Int) : (actF n log).length = (n + 2).toNat := by
  unfold actF
  suffices h : ∀ (l : List Int) (fs : List Bool), (l.foldl (fun fs o => fs.set o.natAbs true) fs).length = fs.length by
    rw [h]; simp
  intro l
  induction l with
  | nil => intro fs; rfl
  | cons o l ih => intro fs; rw [List.foldl_cons, ih]; simp
/-- low, found -/
def blk1 (fs : List Bool) (s : Int × List (Int × Int)) (i : Nat) : Int × List (Int × Int) :=
  let low := if fs.getD (i + 1) default = true ∧ fs.getD i default = false then (1 + (i : Int)) else s.1
  (low, if fs.getD (i + 1) default = true ∧ fs.getD (i + 2) default = false then s.2 ++ [(low, (1 + (i : Int)))] else s.2)
def blk (fs : List Bool) (k : Nat) : Int × List (Int × Int) := (List.range k).foldl (blk1 fs) (1, [])
theorem blk_succ (fs : List Bool) (k : Nat) : blk fs (k + 1) = blk1 fs (blk fs k) k := by
  unfold blk
  rw [List.range_succ, List.foldl_append]; rfl
def blocksF (n : Int) (log : List Int) : List (Int × Int) := (blk (actF n log) n.toNat).2
theorem blk_len (fs : List Bool) : ∀ k, (blk fs k).2.length ≤ k
  | 0 => Nat.le_refl _
  | k + 1 => by
    have := blk_len fs k
    rw [blk_succ]
    unfold blk1
    dsimp only
    generalize (if fs.getD (k + 1) default = true ∧ fs.getD k default = false then 1 + (k : Int) else (blk fs k).1) = z
    split
    · rw [List.length_append]; simp; omega
    · omega
def sp_blocks (a : AD) : Sp := fun vs H Q E => ∃ (n : Int) (p : Addr) (log : List Int), vs = [.int n, .ref p] ∧ H p = some (.lst (log.map V.int)) ∧ log.length ≤ 1000000 ∧ aChk a n log H E fun H1 => ∀ r H' xs, H r = none → Kp [] H H' → H' r = some (.lst xs) → Prs H' xs (blocksF n log) → Q (.ref r) H'
theorem sc_blocks : FnScope ["size", "log", "acts", "operation", "found", "low", "node"] ["size", "log"] (defScope s_blocks) := ⟨rfl, rfl, rfl, by decide +kernel, rfl, by decide +kernel, by decide +kernel⟩
theorem ok_blocks {P : Program} {w : World} {K : PySem.W.Frag} {mg : Str → Option Value} {base : Heap} {a : AD} (T : Txt P K mg a) (G__check_operations : FnA P w K mg base 3 a.f__check_operations ["size", "log"] (sp__check_operations a)) : FnA P w K mg base 4 a.f_blocks ["size", "log"] (sp_blocks a) := by
  obtain ⟨fd, F, b⟩ := T.F_blocks
  refine FnA.of F sc_blocks b (fun vs H Q E h => by first | (obtain ⟨rfl, _⟩ := h; rfl) | (obtain ⟨_, rfl, _⟩ := h; rfl) | (obtain ⟨_, _, rfl, _⟩ := h; rfl) | (obtain ⟨_, _, _, rfl, _⟩ := h; rfl) | (obtain ⟨_, _, _, _, rfl, _⟩ := h; rfl) | (obtain ⟨_, _, _, _, _, rfl, _⟩ := h; rfl) | (obtain ⟨_, _, _, _, _, _, rfl, _⟩ := h; rfl)) (fun cdv A outer s H vs Q E hr tk pz h => ?_)
  have hu := hr.units
  have hrH := L2H.roomH_of hr
  obtain ⟨n, p, log, rfl, hp, hl, h⟩ := h
  refine ⟨_, (pss_cons (ps_expr (pe_callA G__check_operations (Room.mono hr (by decide)) T.n__check_operations tk (pa_cons (pv 0) (pa_cons (pv 1) pa_nil))))
      (pss_cons (ps_set (i := 2) sc_blocks.nd rfl (Or.inl rfl) (pe_op o_mul (pe_lst (pa_cons pe_bl pa_nil)) (pe_op o_add (pv 0) pe_int)))
      (pss_cons (ps_for pz rfl (pi_list (pv 1)) (pg_name (i := 3) sc_blocks.nd rfl (Or.inl rfl))
      (pss_one (ps_asg pe_bl (pg_sub (pv 2) (pe_callB (b_abs) rfl T.b_abs (by decide +kernel) (pa_cons (pv 3) pa_nil)) set_list))))
      (pss_cons (ps_set (i := 4) sc_blocks.nd rfl (Or.inl rfl) (pe_lst pa_nil))
      (pss_cons (ps_set (i := 5) sc_blocks.nd rfl (Or.inl rfl) pe_int)
      (pss_cons (ps_for pz rfl (pi_range2 rfl T.b_range (pa_cons pe_int (pa_cons (pe_op o_add (pv 0) pe_int) pa_nil))) (pg_name (i := 6) sc_blocks.nd rfl (Or.inl rfl))
      (pss_cut (ps_if (PW.pt (pw_and (pt_tru (pe_ix ix_seq (pv 2) (pv 6) (fun _ _ => rfl))) (pw_and1 (pt_not (pt_tru (pe_ix ix_seq (pv 2) (pe_op op_sub (pv 6) pe_int) (fun _ _ => rfl))))))) (pss_one (ps_set (i := 5) sc_blocks.nd rfl (Or.inl rfl) (pv 6))) pss_nil)
      (pss_one (ps_if (PW.pt (pw_and (pt_tru (pe_ix ix_seq (pv 2) (pv 6) (fun _ _ => rfl))) (pw_and1 (pt_not (pt_tru (pe_ix ix_seq (pv 2) (pe_op o_add (pv 6) pe_int) (fun _ _ => rfl))))))) (pss_one (ps_expr (pe_bm PySem.F.plainAttrs_list PySem.F.slot_list_append PySem.F.type_list_append mt_append (pv 4) (pa_cons (pe_tup (pa_cons (pv 5) (pa_cons (pv 6) pa_nil))) pa_nil)))) pss_nil))))
      (pss_one (ps_ret (pv 4))))))))), ?_⟩
  show (_ : Ends → L2.St → Hp → Prop) _ [some _, some _, none, none, none, none, none] _
  try dsimp only [L2H.cxH, cxOf]
  walk_at "w"
  refine ⟨n, p, log, rfl, hp, hl, h.1, h.2.1, fun n0 n1 hok H1 k1 => ?_⟩
  have k : ∀ r H' xs, H r = none → Kp [] H H' → H' r = some (.lst xs) → Prs H' xs (blocksF n log) → Q (.ref r) H' := h.2.2 n0 n1 hok H1 k1
  walk_at "w"
  intro l0 hl0
  walk_at "w"
  intro fl hfl
  walk_at "w"
  have hf0 : H fl = none := k1.free (upd_nil hfl)
  refine w_forM (us := log) (f := V.int) (p := p) (by walk_at "hp") (fun i σ' H' => (∃ x, σ' = [some (.int n), some (.ref p), some (.ref fl), x, none, none, none]) ∧ Kp [] H H' ∧ H' fl = some (.lst ((actF n (log.take i)).map V.bl))) ⟨⟨_, rfl⟩, (Kp.trans k1 (Kp.refl.new hl0)).own hf0, upd_same⟩ (fun i σ' H' _ q => q.2.1.at0 hp) ?_ ?_
  · rintro i u σ' H' hu ⟨⟨x, rfl⟩, hk, hF⟩
    have hul : u.natAbs < (actF n (log.take i)).length := by rw [actF_len]; have := (hok u (mem_of hu)).2; omega
    have e2 : actF n (log.take (i + 1)) = (actF n (log.take i)).set u.natAbs true := by rw [take_snoc hu, actF_snoc]
    walk_at "w"
    refine ⟨⟨_, rfl⟩, hk.own hf0, ?_⟩
    rw [e2]
    exact upd_same
  · rintro σ' H2 ⟨⟨x, rfl⟩, hk2, hF⟩
    rw [List.take_length] at hF
    have hfl : (actF n log).length = (n + 2).toNat := actF_len n log
    walk_at "w"
    intro r hr
    walk_at "w"
    have hr0 : H r = none := hk2.free hr
    have hne : fl ≠ r := ne_of_none hF hr
    refine w_rng2 (lo := 1) (n := n + 1) (by omega) (by omega) (by omega) (by omega) (fun i σ' H' => (∃ y, σ' = [some (.int n), some (.ref p), some (.ref fl), x, some (.ref r), some (.int (blk (actF n log) i).1), y]) ∧ Kp [] H H' ∧ H' fl = some (.lst ((actF n log).map V.bl)) ∧ ∃ xs, H' r = some (.lst xs) ∧ Prs H' xs (blk (actF n log) i).2) ⟨⟨_, rfl⟩, hk2.own hr0, by walk_at "hp", [], upd_same, .nil⟩ ?_ ?_
    · rintro i σ' H' hi ⟨⟨y, rfl⟩, hk, hF, xs, hx, hps⟩
      have hxl := hps.len
      have hbl := blk_len (actF n log) i
      have hT : (1 + (i : Int)).toNat = i + 1 := by omega
      have hT2 : (1 + (i : Int) - 1).toNat = i := by omega
      have hT3 : (1 + (i : Int) + 1).toNat = i + 2 := by omega
      refine s_cut (fun σ2 H2 => σ2 = [some (.int n), some (.ref p), some (.ref fl), x, some (.ref r), some (.int (blk (actF n log) (i + 1)).1), some (.int (1 + (i : Int)))] ∧ H2 = H') ?_ ?_
      · walk_at "w"
        rw [hT]
        refine w_iteb (fun c1 => ?_) (fun c1 => ?_)
        · walk_at "w"
          rw [hT2]
          refine w_itenb (fun c2 => ?_) (fun c2 => ?_)
          · walk_at "w"
            refine ⟨?_, rfl⟩
            rw [blk_succ]
            unfold blk1
            rw [if_pos ⟨c1, c2⟩]
            rfl
          · walk_at "w"
            refine ⟨?_, rfl⟩
            rw [blk_succ]
            unfold blk1
            rw [if_neg (fun z => by rw [z.2] at c2; cases c2)]
            rfl
        · walk_at "w"
          refine ⟨?_, rfl⟩
          rw [blk_succ]
          unfold blk1
          rw [if_neg (fun z => by rw [z.1] at c1; cases c1)]
          rfl
      · rintro σ2 H2 ⟨rfl, rfl⟩
        have e2 : (blk (actF n log) (i + 1)).2 = if (actF n log).getD (i + 1) default = true ∧ (actF n log).getD (i + 2) default = false then (blk (actF n log) i).2 ++ [((blk (actF n log) (i + 1)).1, (1 + (i : Int)))] else (blk (actF n log) i).2 := by
          rw [blk_succ]; rfl
        walk_at "w"
        rw [hT]
        refine w_iteb (fun c1 => ?_) (fun c1 => ?_)
        · walk_at "w"
          rw [hT3]
          refine w_itenb (fun c2 => ?_) (fun c2 => ?_)
          · walk_at "w"
            intro T hT
            walk_at "w"
            rw [if_pos ⟨c1, c2⟩] at e2
            refine ⟨⟨_, rfl⟩, (hk.new hT).own hr0, by walk_at "hp", _, upd_same, ?_⟩
            rw [e2]
            exact Prs.snoc ((hps.new hT).mut (upd_get (ne_of_none hx hT) hx)) (upd_get (Ne.symm (ne_of_none hx hT)) upd_same)
          · walk_at "w"
            rw [if_neg (fun z => by rw [z.2] at c2; cases c2)] at e2
            refine ⟨⟨_, rfl⟩, hk, hF, xs, hx, ?_⟩
            rw [e2]; exact hps
        · walk_at "w"
          rw [if_neg (fun z => by rw [z.1] at c1; cases c1)] at e2
          refine ⟨⟨_, rfl⟩, hk, hF, xs, hx, ?_⟩
          rw [e2]; exact hps
    · rintro σ' H' ⟨⟨y, rfl⟩, hk, hF, xs, hx, hps⟩
      walk_at "w"
      rw [show (n + 1 - 1).toNat = n.toNat by omega] at hps
      exact k r H' xs hr0 hk hx hps
def part1 (l h o : Int) : Option Int := if l ≤ (o.natAbs : Int) ∧ (o.natAbs : Int) ≤ h then some (if o > 0 then o - (l - 1) else o + (l - 1)) else none
def sp_block_part (a : AD) : Sp := fun vs H Q E => ∃ (n : Int) (p : Addr) (log : List Int) (l h : Int), vs = [.int n, .ref p, .int l, .int h] ∧ H p = some (.lst (log.map V.int)) ∧ log.length ≤ 1000000 ∧ aChk a n log H E fun H1 =>
  (¬(1 ≤ l ∧ l ≤ h ∧ h ≤ n) → xBadRange a l h E H) ∧ (1 ≤ l → l ≤ h → h ≤ n → ∀ r H', H r = none → Kp [] H H' → H' r = some (.lst ((log.filterMap (part1 l h)).map V.int)) → Q (.ref r) H')
theorem sc_block_part : FnScope ["size", "log", "low", "high", "shift", "operation"] ["size", "log", "low", "high"] (defScope s_block_part) := ⟨rfl, rfl, rfl, by decide +kernel, rfl, by decide +kernel, by decide +kernel⟩
theorem ok_block_part {P : Program} {w : World} {K : PySem.W.Frag} {mg : Str → Option Value} {base : Heap} {a : AD} (T : Txt P K mg a) (G__check_operations : FnA P w K mg base 3 a.f__check_operations ["size", "log"] (sp__check_operations a)) : FnA P w K mg base 4 a.f_block_part ["size", "log", "low", "high"] (sp_block_part a) := by
  obtain ⟨fd, F, b⟩ := T.F_block_part
  refine FnA.of F sc_block_part b (fun vs H Q E h => by first | (obtain ⟨rfl, _⟩ := h; rfl) | (obtain ⟨_, rfl, _⟩ := h; rfl) | (obtain ⟨_, _, rfl, _⟩ := h; rfl) | (obtain ⟨_, _, _, rfl, _⟩ := h; rfl) | (obtain ⟨_, _, _, _, rfl, _⟩ := h; rfl) | (obtain ⟨_, _, _, _, _, rfl, _⟩ := h; rfl) | (obtain ⟨_, _, _, _, _, _, rfl, _⟩ := h; rfl)) (fun cdv A outer s H vs Q E hr tk pz h => ?_)
  have hu := hr.units
  have hrH := L2H.roomH_of hr
  obtain ⟨n, p, log, lo, hi, rfl, hp, hl, h⟩ := h
  refine ⟨_, (pss_cons (ps_expr (pe_callA G__check_operations (Room.mono hr (by decide)) T.n__check_operations tk (pa_cons (pv 0) (pa_cons (pv 1) pa_nil))))
      (pss_cons (ps_if (pt_not (pt_chain3A op_le op_le op_le pe_int (pv 2) (pv 3) (pv 0))) (pss_one (L2N.ps_raise rfl tk (Lk.pmk_own T.x_BadRange (List.cons_ne_nil _ _) hr T.c_BadRange (by exact (pa_cons (pv 2) (pa_cons (pv 3) pa_nil))) rfl))) pss_nil)
      (pss_cons (ps_set (i := 4) sc_block_part.nd rfl (Or.inr rfl) (pe_op op_sub (pv 2) pe_int))
      (pss_one (ps_ret (pe_lc (own := [("operation", 5)]) (g := (gName 5)) rfl sc_block_part.nd (pi_list (pv 1)) (blkOk_by (own := [("operation", 5)]) (N := ["size", "log", "low", "high", "shift", "operation"]) (sc := defScope s_block_part) (by decide +kernel)) (fun _ _ _ _ _ => (pg_name (i := 5) sc_block_part.nd rfl (Or.inl rfl))) (fun _ _ _ _ _ => (pts_one (pt_chainA op_le op_le (pv 2) (pe_callB (b_abs) rfl T.b_abs (by decide +kernel) (pa_cons (pv 5) pa_nil)) (pv 3)))) (fun _ _ _ _ _ => (pe_ifExp (pt_cmpA op_gt (pv 5) pe_int (nomark _)) (pe_op op_sub (pv 5) (pv 4)) (pe_op o_add (pv 5) (pv 4)))))))))), ?_⟩
  show (_ : Ends → L2.St → Hp → Prop) _ [some _, some _, some _, some _, none, none] _
  try dsimp only [L2H.cxH, cxOf]
  walk_at "w"
  refine ⟨n, p, log, rfl, hp, hl, h.1, h.2.1, fun n0 n1 hok H1 k1 => ?_⟩
  have kk : (¬(1 ≤ lo ∧ lo ≤ hi ∧ hi ≤ n) → xBadRange a lo hi E H) ∧ (1 ≤ lo → lo ≤ hi → hi ≤ n → ∀ r H', H r = none → Kp [] H H' → H' r = some (.lst ((log.filterMap (part1 lo hi)).map V.int)) → Q (.ref r) H') := h.2.2 n0 n1 hok H1 k1
  walk_at "w"
  by_cases ok : 1 ≤ lo ∧ lo ≤ hi ∧ hi ≤ n
  · walk_at "w"
    refine w_lcM (us := log) (f := V.int) (f' := V.int) (part1 lo hi) (k1.at0 hp) (by rw [sizeLine_eq]; omega) ?_ ?_
    · intro D i u acc H' hD hu hk hA hlen
      walk_at "w"
      refine ⟨rfl, ?_⟩
      walk_at "w"
      refine w_ite (fun c => ?_) (fun c => ?_)
      · walk_at "w"
        refine w_ite (fun c2 => ?_) (fun c2 => ?_)
        · walk_at "w"
          refine w_ite (fun c3 => ?_) (fun c3 => ?_)
          · walk_at "w"
            exact w_keep hk hA hlen hD (by rw [part1, if_pos ⟨c, c2⟩, if_pos c3])
          · walk_at "w"
            exact w_keep hk hA hlen hD (by rw [part1, if_pos ⟨c, c2⟩, if_neg c3])
        · exact w_drop hk hA (by rw [part1, if_neg (fun z => c2 z.2)])
      · walk_at "w"
        exact w_drop hk hA (by rw [part1, if_neg (fun z => c z.1)])
    · intro D H' hD hk hA
      exact kk.2 ok.1 ok.2.1 ok.2.2 D H' (k1.free hD) (k1.trans hk) hA
  · have bad : ∀ H', Kp [] H H' → ∀ d, H' d = none → E (.ref a.BadRange) (some d) (upd H' d (.xd [("low", .int lo), ("high", .int hi)])) := fun H' hk d hd => kk.1 ok d _ (hk.free hd) upd_same (hk.new hd)
    refine w_ite (fun c => ?_) (fun c => ?_)
    · walk_at "w"
      refine w_ite (fun c => ?_) (fun c => ?_)
      · walk_at "w"
        exact ⟨rfl, fun d hd => bad H1 k1 d hd⟩
      · walk_at "w"
        exact ⟨rfl, fun d hd => bad H1 k1 d hd⟩
    · walk_at "w"
      exact ⟨rfl, fun d hd => bad H1 k1 d hd⟩
/-! ### draws -/
/-- the box at b, its numbers at q -/
def Box (H : Hp) (b q : Addr) : Prop := ∃ (ns : List Int) (i big st c : Int), H b = some (.lst [.ref q, .int i, .int big, .int st, .int c]) ∧ H q = some (.lst (ns.map V.int)) ∧ q ≠ b ∧ 0 ≤ i ∧ 0 ≤ big
theorem Box.kp {H H' : Hp} {b q : Addr} (B : Box H b q) (k : Kp [] H H') : Box H' b q := by
  obtain ⟨ns, i, big, st, c, h1, h2, h3⟩ := B
  exact ⟨ns, i, big, st, c, k.at0 h1, k.at0 h2, h3⟩
theorem Box.new {H : Hp} {b q p : Addr} {o : HO} (B : Box H b q) (h : H p = none) : Box (upd H p o) b q := B.kp (Kp.refl.new h)
theorem Box.mut {H : Hp} {b q p : Addr} {o : HO} (B : Box H b q) (n1 : p ≠ b) (n2 : p ≠ q) : Box (upd H p o) b q := by
  obtain ⟨ns, i, big, st, c, h1, h2, h3⟩ := B
  exact ⟨ns, i, big, st, c, upd_get (Ne.symm n1) h1, upd_get (Ne.symm n2) h2, h3⟩
theorem Box.b {H : Hp} {b q p : Addr} (B : Box H b q) (h : H p = none) : p ≠ b := by
  obtain ⟨ns, i, big, st, c, h1, h2, h3⟩ := B
  exact Ne.symm (ne_of_none h1 h)
theorem Box.q {H : Hp} {b q p : Addr} (B : Box H b q) (h : H p = none) : p ≠ q := by
  obtain ⟨ns, i, big, st, c, h1, h2, h3⟩ := B
  exact Ne.symm (ne_of_none h2 h)
theorem kp_free {H H' : Hp} {b q r : Addr} (B : Box H' b q) (k : Kp [b] H H') (h : H' r = none) : H r = none := k.freeM h (by
  obtain ⟨ns, i, big, st, c, h1, h2, h3⟩ := B
  intro x hx
  rw [List.mem_singleton] at hx
  exact ⟨_, by rw [hx]; exact h1⟩)
def sp__law_box (K : PySem.W.Frag) (a : AD) : Sp := fun vs H Q _ => ∃ (p : Addr) (ns : List Int), vs = [.ref p] ∧ SqL K H p (ns.map V.int) ∧ ∀ (b q : Addr) (H' : Hp), H b = none → Box H' b q → Kp [] H H' → Q (.ref b) H'
def sp__law_draw (a : AD) : Sp := fun vs H Q _ => ∃ (b q : Addr) (m : Int), vs = [.ref b, .int m] ∧ Box H b q ∧ 0 < m ∧ m < 1073741824 ∧ ∀ (r : Int) (H' : Hp), 0 ≤ r → r < m → Box H' b q → Kp [b] H H' → Q (.int r) H'
theorem sc__law_box : FnScope ["_law_script"] ["_law_script"] (defScope s__law_box) := ⟨rfl, rfl, rfl, by decide +kernel, rfl, by decide +kernel, by decide +kernel⟩
theorem ok__law_box {P : Program} {w : World} {K : PySem.W.Frag} {mg : Str → Option Value} {base : Heap} {a : AD} (T : Txt P K mg a) : FnA P w K mg base 2 a.f__law_box ["_law_script"] (sp__law_box K a) := by
  obtain ⟨fd, F, b⟩ := T.F__law_box
  refine FnA.of F sc__law_box b (fun vs H Q E h => by first | (obtain ⟨rfl, _⟩ := h; rfl) | (obtain ⟨_, rfl, _⟩ := h; rfl) | (obtain ⟨_, _, rfl, _⟩ := h; rfl) | (obtain ⟨_, _, _, rfl, _⟩ := h; rfl) | (obtain ⟨_, _, _, _, rfl, _⟩ := h; rfl) | (obtain ⟨_, _, _, _, _, rfl, _⟩ := h; rfl) | (obtain ⟨_, _, _, _, _, _, rfl, _⟩ := h; rfl)) (fun cdv A outer s H vs Q E hr tk pz h => ?_)
  have hu := hr.units
  have hrH := L2H.roomH_of hr
  obtain ⟨p, ns, rfl, hp, k⟩ := h
  refine ⟨_, (pss_one (ps_ret (pe_lst (pa_cons (pe_callTy b_list rfl T.b_list (by decide +kernel) (pa_cons (pe_slice sl_any (pv 0) po_none (po_some pe_int)) pa_nil)) (pa_cons pe_int (pa_cons pe_int (pa_cons pe_int (pa_cons pe_int pa_nil)))))))), ?_⟩
  show (_ : Ends → L2.St → Hp → Prop) _ [some _] _
  try dsimp only [L2H.cxH, cxOf]
  walk_at "w"
  intro r hr
  walk_at "w"
  intro l hl
  walk_at "w"
  intro b hb
  refine k b l _ (upd_nil (upd_nil hb)) ⟨cut ns none (some 63), 0, 0, 59, 0, upd_same, upd_get (Ne.symm (upd_nel hb)) upd_same, Ne.symm (upd_nel hb), by omega, by omega⟩ (((Kp.refl.new hr).new hl).new hb)
theorem sc__law_draw : FnScope ["_law_box_here", "_law_many", "_law_cell", "_law_digit", "_law_mixed"] ["_law_box_here", "_law_many"] (defScope s__law_draw) := ⟨rfl, rfl, rfl, by decide +kernel, rfl, by decide +kernel, by decide +kernel⟩
theorem ok__law_draw {P : Program} {w : World} {K : PySem.W.Frag} {mg : Str → Option Value} {base : Heap} {a : AD} (T : Txt P K mg a) : FnA P w K mg base 2 a.f__law_draw ["_law_box_here", "_law_many"] (sp__law_draw a) := by
  obtain ⟨fd, F, b⟩ := T.F__law_draw
  refine FnA.of F sc__law_draw b (fun vs H Q E h => by first | (obtain ⟨rfl, _⟩ := h; rfl) | (obtain ⟨_, rfl, _⟩ := h; rfl) | (obtain ⟨_, _, rfl, _⟩ := h; rfl) | (obtain ⟨_, _, _, rfl, _⟩ := h; rfl) | (obtain ⟨_, _, _, _, rfl, _⟩ := h; rfl) | (obtain ⟨_, _, _, _, _, rfl, _⟩ := h; rfl) | (obtain ⟨_, _, _, _, _, _, rfl, _⟩ := h; rfl)) (fun cdv A outer s H vs Q E hr tk pz h => ?_)
  have hu := hr.units
  have hrH := L2H.roomH_of hr
  obtain ⟨b, q, m, rfl, ⟨ns, i, big, st, c, hb, hq, hqb, hi, hbig⟩, hm0, hm1, k⟩ := h
  refine ⟨_, (pss_cut (ps_if (PW.pt (pw_and (pt_cmpA (o_eq hu) (pe_ix ix_seq (pv 0) pe_int (fun _ _ => rfl)) pe_int (nomark _)) (pw_and1 (pt_cmpA op_lt (pe_ix ix_seq (pv 0) pe_int (fun _ _ => rfl)) (pe_callB (b_len) rfl T.b_len (by decide +kernel) (pa_cons (pe_ix ix_seq (pv 0) pe_int (fun _ _ => rfl)) pa_nil)) (nomark _))))) (pss_cons (ps_set (i := 2) sc__law_draw.nd rfl (Or.inl rfl) (pe_ix ix_seq (pe_ix ix_seq (pv 0) pe_int (fun _ _ => rfl)) (pe_ix ix_seq (pv 0) pe_int (fun _ _ => rfl)) (fun _ _ => rfl)))
      (pss_cons (ps_asg (pe_op o_add (pe_ix ix_seq (pv 0) pe_int (fun _ _ => rfl)) pe_int) (pg_sub (pv 0) pe_int set_list))
      (pss_one (ps_if (pt_cmpA op_ge (pv 2) (pe_op op_pow pe_int pe_int) (nomark _)) (pss_one (ps_asg (pv 2) (pg_sub (pv 0) pe_int set_list))) (pss_one (ps_asg (pe_op op_mod (pe_callTy b_int rfl T.b_int (by decide +kernel) (pa_cons (pe_op o_add (pe_op o_add (pe_op o_mul (pe_ix ix_seq (pv 0) pe_int (fun _ _ => rfl)) pe_int) (pe_op o_mul (pv 2) pe_int)) pe_int) pa_nil)) pe_int) (pg_sub (pv 0) pe_int set_list))))))) pss_nil)
      (pss_cons (ps_if (pt_cmpA op_gt (pe_ix ix_seq (pv 0) pe_int (fun _ _ => rfl)) pe_int (nomark _)) (pss_cons (ps_set (i := 3) sc__law_draw.nd rfl (Or.inl rfl) (pe_op op_mod (pe_callTy b_int rfl T.b_int (by decide +kernel) (pa_cons (pe_ix ix_seq (pv 0) pe_int (fun _ _ => rfl)) pa_nil)) (pv 1)))
      (pss_cons (ps_asg (pe_op op_fdiv (pe_ix ix_seq (pv 0) pe_int (fun _ _ => rfl)) (pv 1)) (pg_sub (pv 0) pe_int set_list))
      (pss_one (ps_ret (pv 3))))) pss_nil)
      (pss_cons (ps_asg (pe_op o_add (pe_ix ix_seq (pv 0) pe_int (fun _ _ => rfl)) pe_int) (pg_sub (pv 0) pe_int set_list))
      (pss_cons (ps_asg (pe_op op_mod (pe_callTy b_int rfl T.b_int (by decide +kernel) (pa_cons (pe_op o_add (pe_op o_mul (pe_ix ix_seq (pv 0) pe_int (fun _ _ => rfl)) pe_int) (pe_op o_mul (pe_ix ix_seq (pv 0) pe_int (fun _ _ => rfl)) pe_int)) pa_nil)) pe_int) (pg_sub (pv 0) pe_int set_list))
      (pss_cons (ps_set (i := 4) sc__law_draw.nd rfl (Or.inl rfl) (pe_op op_mod (pe_callTy b_int rfl T.b_int (by decide +kernel) (pa_cons (pe_op o_add (pe_op o_add (pe_op o_mul (pe_op op_fdiv (pe_ix ix_seq (pv 0) pe_int (fun _ _ => rfl)) pe_int) pe_int) (pe_ix ix_seq (pv 0) pe_int (fun _ _ => rfl))) (pe_ix ix_seq (pv 0) pe_int (fun _ _ => rfl))) pa_nil)) pe_int))
      (pss_one (ps_ret (pe_op op_mod (pe_callTy b_int rfl T.b_int (by decide +kernel) (pa_cons (pe_op op_fdiv (pv 4) pe_int) pa_nil)) (pv 1))))))))), ?_⟩
  show (_ : Ends → L2.St → Hp → Prop) _ [some _, some _, none, none, none] _
  try dsimp only [L2H.cxH, cxOf]
  refine s_cut (fun σ' H' => ∃ x i big st c, σ' = [some (.ref b), some (.int m), x, none, none] ∧ H' b = some (.lst [.ref q, .int i, .int big, .int st, .int c]) ∧ Kp [b] H H' ∧ 0 ≤ i ∧ 0 ≤ big) ?_ ?_
  · walk_at "w"
    refine w_ite (fun c1 => ?_) (fun c1 => ?_)
    · walk_at "w"
      refine w_ite (fun c2 => ?_) (fun c2 => ?_)
      · walk_at "w"
        refine w_ite (fun c3 => ?_) (fun c3 => ?_)
        · walk_at "w"
          exact ⟨_, i + 1, ns.getD i.toNat default, st, c, rfl, upd_same, (Kp.refl.mut List.mem_cons_self).mut List.mem_cons_self, by omega, Int.le_trans (by decide) c3⟩
        · walk_at "w"
          exact ⟨_, i + 1, big, _, c, rfl, upd_same, (Kp.refl.mut List.mem_cons_self).mut List.mem_cons_self, by omega, hbig⟩
      · walk_at "w"
        exact ⟨_, _, _, _, _, rfl, hb, Kp.refl, hi, hbig⟩
    · walk_at "w"
      exact ⟨_, _, _, _, _, rfl, hb, Kp.refl, hi, hbig⟩
  · rintro σ' H' ⟨x, i, big, st, c, rfl, hb', hk, hi, hbig⟩
    walk_at "w"
    refine w_ite (fun c1 => ?_) (fun c1 => ?_)
    · walk_at "w"
      refine k _ _ (Int.emod_nonneg _ (by omega)) (Int.emod_lt_of_pos _ hm0) ⟨ns, i, _, st, c, upd_same, upd_get hqb ?_, hqb, hi, Int.ediv_nonneg hbig (by omega)⟩ (hk.mut List.mem_cons_self)
      exact hk.at hq (fun z => hqb (List.mem_singleton.mp z))
    · walk_at "w"
      refine k _ _ (Int.emod_nonneg _ (by omega)) (Int.emod_lt_of_pos _ hm0) ⟨ns, i, big, _, c + 1, upd_same, upd_get hqb (upd_get hqb ?_), hqb, hi, hbig⟩ ((hk.mut List.mem_cons_self).mut List.mem_cons_self)
      exact hk.at hq (fun z => hqb (List.mem_singleton.mp z))
def sp__law_is (a : AD) : Sp := fun vs H Q _ => ∃ (t d : Int), vs = [.int t, .int d] ∧ Q (.bl (decide (t = d))) H
theorem sc__law_is : FnScope ["_law_told", "_law_due"] ["_law_told", "_law_due"] (defScope s__law_is) := ⟨rfl, rfl, rfl, by decide +kernel, rfl, by decide +kernel, by decide +kernel⟩
theorem ok__law_is {P : Program} {w : World} {K : PySem.W.Frag} {mg : Str → Option Value} {base : Heap} {a : AD} (T : Txt P K mg a) : FnA P w K mg base 2 a.f__law_is ["_law_told", "_law_due"] (sp__law_is a) := by
  obtain ⟨fd, F, b⟩ := T.F__law_is
  refine FnA.of F sc__law_is b (fun vs H Q E h => by first | (obtain ⟨rfl, _⟩ := h; rfl) | (obtain ⟨_, rfl, _⟩ := h; rfl) | (obtain ⟨_, _, rfl, _⟩ := h; rfl) | (obtain ⟨_, _, _, rfl, _⟩ := h; rfl) | (obtain ⟨_, _, _, _, rfl, _⟩ := h; rfl) | (obtain ⟨_, _, _, _, _, rfl, _⟩ := h; rfl) | (obtain ⟨_, _, _, _, _, _, rfl, _⟩ := h; rfl)) (fun cdv A outer s H vs Q E hr tk pz h => ?_)
  have hu := hr.units
  have hrH := L2H.roomH_of hr
  obtain ⟨t, d, rfl, k⟩ := h
  refine ⟨_, (pss_one (ps_ret (pe_and (pe_callB (call_isi) rfl T.b_isinstance (by decide +kernel) (pa_cons (pv 0) (pa_cons (pe_bltn (v := .ty "int") rfl T.b_int (by decide +kernel) rfl) pa_nil))) (pe_and (pe_not (pe_callB (call_isi) rfl T.b_isinstance (by decide +kernel) (pa_cons (pv 0) (pa_cons (pe_bltn (v := .ty "bool") rfl T.b_bool (by decide +kernel) rfl) pa_nil)))) (pe_one (pe_cmpR (o_eq hu) (pv 0) (pv 1) (nomark _))))))), ?_⟩
  show (_ : Ends → L2.St → Hp → Prop) _ [some _, some _] _
  try dsimp only [L2H.cxH, cxOf]
  walk_at "w"
  exact k
theorem hk__law_is {P : Program} {w : World} {K : PySem.W.Frag} {mg : Str → Option Value} {base : Heap} {a : AD} (T : Txt P K mg a) : FnHA P w K mg base 2 a.f__law_is ["_law_told", "_law_due"] (sp__law_is a) := by
  obtain ⟨fd, F, b⟩ := T.F__law_is
  refine FnHA.of F sc__law_is b (fun vs H Q E h => by first | (obtain ⟨rfl, _⟩ := h; rfl) | (obtain ⟨_, rfl, _⟩ := h; rfl) | (obtain ⟨_, _, rfl, _⟩ := h; rfl) | (obtain ⟨_, _, _, rfl, _⟩ := h; rfl) | (obtain ⟨_, _, _, _, rfl, _⟩ := h; rfl) | (obtain ⟨_, _, _, _, _, rfl, _⟩ := h; rfl) | (obtain ⟨_, _, _, _, _, _, rfl, _⟩ := h; rfl)) (fun cdv A outer s H vs Q E pin hot1 hrH hot pz h => ?_)
  have hu := roomH_units hrH
  obtain ⟨t, d, rfl, k⟩ := h
  refine ⟨_, (pss_one (ps_ret (pe_and (pe_callB (call_isi) rfl T.b_isinstance (by decide +kernel) (pa_cons (pv 0) (pa_cons (pe_bltn (v := .ty "int") rfl T.b_int (by decide +kernel) rfl) pa_nil))) (pe_and (pe_not (pe_callB (call_isi) rfl T.b_isinstance (by decide +kernel) (pa_cons (pv 0) (pa_cons (pe_bltn (v := .ty "bool") rfl T.b_bool (by decide +kernel) rfl) pa_nil)))) (pe_one (pe_cmpR (o_eq hu) (pv 0) (pv 1) (nomark _))))))), ?_⟩
  show (_ : Ends → L2.St → Hp → Prop) _ [some _, some _] _
  try dsimp only [L2H.cxH, cxOf]
  walk_at "w"
  exact k
def sp__law_integers (a : AD) : Sp := fun vs H Q _ => ∃ (p q : Addr) (us ds : List Int), vs = [.ref p, .ref q] ∧ H p = some (.lst (us.map V.int)) ∧ H q = some (.lst (ds.map V.int)) ∧ us.length < 1000000 ∧ ds.length < 1000000 ∧ Q (.bl (decide (us = ds))) H
theorem ne_at {us ds : List Int} {i : Nat} (h : ¬us.getD i default = ds.getD i default) : decide (us = ds) = false := by
  simp; intro z; exact h (by rw [z])
theorem eq_at {us ds : List Int} (hl : us.length = ds.length) (h : ∀ j, j < ds.length → us.getD j default = ds.getD j default) : us = ds := by
  apply List.ext_getElem hl
  intro i h1 h2
  have := h i h2
  simpa [List.getD, List.getElem?_eq_getElem h1, List.getElem?_eq_getElem h2] using this
theorem sc__law_integers : FnScope ["_law_told", "_law_due", "_law_k"] ["_law_told", "_law_due"] (defScope s__law_integers) := ⟨rfl, rfl, rfl, by decide +kernel, rfl, by decide +kernel, by decide +kernel⟩
theorem ok__law_integers {P : Program} {w : World} {K : PySem.W.Frag} {mg : Str → Option Value} {base : Heap} {a : AD} (T : Txt P K mg a) (G__law_is : FnA P w K mg base 2 a.f__law_is ["_law_told", "_law_due"] (sp__law_is a)) : FnA P w K mg base 3 a.f__law_integers ["_law_told", "_law_due"] (sp__law_integers a) := by
  obtain ⟨fd, F, b⟩ := T.F__law_integers
  refine FnA.of F sc__law_integers b (fun vs H Q E h => by first | (obtain ⟨rfl, _⟩ := h; rfl) | (obtain ⟨_, rfl, _⟩ := h; rfl) | (obtain ⟨_, _, rfl, _⟩ := h; rfl) | (obtain ⟨_, _, _, rfl, _⟩ := h; rfl) | (obtain ⟨_, _, _, _, rfl, _⟩ := h; rfl) | (obtain ⟨_, _, _, _, _, rfl, _⟩ := h; rfl) | (obtain ⟨_, _, _, _, _, _, rfl, _⟩ := h; rfl)) (fun cdv A outer s H vs Q E hr tk pz h => ?_)
  have hu := hr.units
  have hrH := L2H.roomH_of hr
  obtain ⟨p, q, us, ds, rfl, hp, hq, hl1, hl2, k⟩ := h
  refine ⟨_, (pss_cons (ps_if (PW.pt (pw_or (pt_not (pt_tru (pe_callB (call_isi) rfl T.b_isinstance (by decide +kernel) (pa_cons (pv 0) (pa_cons (pe_bltn (v := .ty "list") rfl T.b_list (by decide +kernel) rfl) pa_nil))))) (pw_or1 (pt_cmpA (o_ne hu) (pe_callB (b_len) rfl T.b_len (by decide +kernel) (pa_cons (pv 0) pa_nil)) (pe_callB (b_len) rfl T.b_len (by decide +kernel) (pa_cons (pv 1) pa_nil)) (nomark _))))) (pss_one (ps_ret pe_bl)) pss_nil)
      (pss_cons (ps_for pz rfl (pi_range1 rfl T.b_range (pa_cons (pe_callB (b_len) rfl T.b_len (by decide +kernel) (pa_cons (pv 1) pa_nil)) pa_nil)) (pg_name (i := 2) sc__law_integers.nd rfl (Or.inl rfl))
      (pss_one (ps_if (pt_not (pt_tru (pe_callA G__law_is (Room.mono hr (by decide)) T.n__law_is tk (pa_cons (pe_ix ix_seq (pv 0) (pv 2) (fun _ _ => rfl)) (pa_cons (pe_ix ix_seq (pv 1) (pv 2) (fun _ _ => rfl)) pa_nil))))) (pss_one (ps_ret pe_bl)) pss_nil)))
      (pss_one (ps_ret pe_bl)))), ?_⟩
  show (_ : Ends → L2.St → Hp → Prop) _ [some _, some _, none] _
  try dsimp only [L2H.cxH, cxOf]
  walk_at "w"
  refine w_iteN (fun c => ?_) (fun c => ?_)
  · walk_at "w"
    rw [show decide (us = ds) = false by simp; intro z; exact c (by rw [z])] at k
    exact k
  · walk_at "w"
    refine w_rng1 (n := (ds.length : Int)) (by omega) (by omega) (fun i σ' H' => (∃ x, σ' = [some (.ref p), some (.ref q), x]) ∧ H' = H ∧ ∀ j, j < i → us.getD j default = ds.getD j default) ⟨⟨_, rfl⟩, rfl, fun j hj => by omega⟩ ?_ ?_
    · rintro i σ' H' hi ⟨⟨x, rfl⟩, rfl, hj⟩
      walk_at "w"
      refine ⟨_, _, rfl, ?_⟩
      walk_at "w"
      refine w_iteN (fun c2 => ?_) (fun c2 => ?_)
      · walk_at "w"
        rw [ne_at c2] at k
        exact k
      · walk_at "w"
        refine ⟨⟨_, rfl⟩, rfl, fun j hj' => ?_⟩
        by_cases z : j < i
        · exact hj j z
        · obtain rfl : j = i := by omega
          exact c2
    · rintro σ' H' ⟨⟨x, rfl⟩, rfl, hj⟩
      walk_at "w"
      rw [show decide (us = ds) = true by simp; exact eq_at (by omega) (fun j h => hj j (by simpa using h))] at k
      exact k
theorem hk__law_integers {P : Program} {w : World} {K : PySem.W.Frag} {mg : Str → Option Value} {base : Heap} {a : AD} (T : Txt P K mg a) (H__law_is : FnHA P w K mg base 2 a.f__law_is ["_law_told", "_law_due"] (sp__law_is a)) : FnHA P w K mg base 3 a.f__law_integers ["_law_told", "_law_due"] (sp__law_integers a) := by
  obtain ⟨fd, F, b⟩ := T.F__law_integers
  refine FnHA.of F sc__law_integers b (fun vs H Q E h => by first | (obtain ⟨rfl, _⟩ := h; rfl) | (obtain ⟨_, rfl, _⟩ := h; rfl) | (obtain ⟨_, _, rfl, _⟩ := h; rfl) | (obtain ⟨_, _, _, rfl, _⟩ := h; rfl) | (obtain ⟨_, _, _, _, rfl, _⟩ := h; rfl) | (obtain ⟨_, _, _, _, _, rfl, _⟩ := h; rfl) | (obtain ⟨_, _, _, _, _, _, rfl, _⟩ := h; rfl)) (fun cdv A outer s H vs Q E pin hot1 hrH hot pz h => ?_)
  have hu := roomH_units hrH
  obtain ⟨p, q, us, ds, rfl, hp, hq, hl1, hl2, k⟩ := h
  refine ⟨_, (pss_cons (ps_if (PW.pt (pw_or (pt_not (pt_tru (pe_callB (call_isi) rfl T.b_isinstance (by decide +kernel) (pa_cons (pv 0) (pa_cons (pe_bltn (v := .ty "list") rfl T.b_list (by decide +kernel) rfl) pa_nil))))) (pw_or1 (pt_cmpA (o_ne hu) (pe_callB (b_len) rfl T.b_len (by decide +kernel) (pa_cons (pv 0) pa_nil)) (pe_callB (b_len) rfl T.b_len (by decide +kernel) (pa_cons (pv 1) pa_nil)) (nomark _))))) (pss_one (ps_ret pe_bl)) pss_nil)
      (pss_cons (L2H.ps_forH pz hot (L2H.pi_range1H rfl T.b_range (pa_cons (pe_callB (b_len) rfl T.b_len (by decide +kernel) (pa_cons (pv 1) pa_nil)) pa_nil)) (pg_name (i := 2) sc__law_integers.nd rfl (Or.inl rfl))
      (pss_one (ps_if (pt_not (pt_tru (pe_callHA H__law_is (L2H.RoomH.mono hrH (by decide)) hot T.n__law_is (pa_cons (pe_ix ix_seq (pv 0) (pv 2) (fun _ _ => rfl)) (pa_cons (pe_ix ix_seq (pv 1) (pv 2) (fun _ _ => rfl)) pa_nil))))) (pss_one (ps_ret pe_bl)) pss_nil)))
      (pss_one (ps_ret pe_bl)))), ?_⟩
  show (_ : Ends → L2.St → Hp → Prop) _ [some _, some _, none] _
  try dsimp only [L2H.cxH, cxOf]
  walk_at "w"
  refine w_iteN (fun c => ?_) (fun c => ?_)
  · walk_at "w"
    rw [show decide (us = ds) = false by simp; intro z; exact c (by rw [z])] at k
    exact k
  · walk_at "w"
    refine w_rng1 (n := (ds.length : Int)) (by omega) (by omega) (fun i σ' H' => (∃ x, σ' = [some (.ref p), some (.ref q), x]) ∧ H' = H ∧ ∀ j, j < i → us.getD j default = ds.getD j default) ⟨⟨_, rfl⟩, rfl, fun j hj => by omega⟩ ?_ ?_
    · rintro i σ' H' hi ⟨⟨x, rfl⟩, rfl, hj⟩
      walk_at "w"
      refine ⟨_, _, rfl, ?_⟩
      walk_at "w"
      refine w_iteN (fun c2 => ?_) (fun c2 => ?_)
      · walk_at "w"
        rw [ne_at c2] at k
        exact k
      · walk_at "w"
        refine ⟨⟨_, rfl⟩, rfl, fun j hj' => ?_⟩
        by_cases z : j < i
        · exact hj j z
        · obtain rfl : j = i := by omega
          exact c2
    · rintro σ' H' ⟨⟨x, rfl⟩, rfl, hj⟩
      walk_at "w"
      rw [show decide (us = ds) = true by simp; exact eq_at (by omega) (fun j h => hj j (by simpa using h))] at k
      exact k
def sp__law_size (a : AD) : Sp := fun vs H Q _ => ∃ (b q : Addr), vs = [.ref b] ∧ Box H b q ∧ ∀ (r : Int) (H' : Hp), 0 ≤ r → r ≤ 60 → Box H' b q → Kp [b] H H' → Q (.int r) H'
theorem sc__law_size : FnScope ["_law_box_here", "_law_kind"] ["_law_box_here"] (defScope s__law_size) := ⟨rfl, rfl, rfl, by decide +kernel, rfl, by decide +kernel, by decide +kernel⟩
theorem ok__law_size {P : Program} {w : World} {K : PySem.W.Frag} {mg : Str → Option Value} {base : Heap} {a : AD} (T : Txt P K mg a) (G__law_draw : FnA P w K mg base 2 a.f__law_draw ["_law_box_here", "_law_many"] (sp__law_draw a)) : FnA P w K mg base 3 a.f__law_size ["_law_box_here"] (sp__law_size a) := by
  obtain ⟨fd, F, b⟩ := T.F__law_size
  refine FnA.of F sc__law_size b (fun vs H Q E h => by first | (obtain ⟨rfl, _⟩ := h; rfl) | (obtain ⟨_, rfl, _⟩ := h; rfl) | (obtain ⟨_, _, rfl, _⟩ := h; rfl) | (obtain ⟨_, _, _, rfl, _⟩ := h; rfl) | (obtain ⟨_, _, _, _, rfl, _⟩ := h; rfl) | (obtain ⟨_, _, _, _, _, rfl, _⟩ := h; rfl) | (obtain ⟨_, _, _, _, _, _, rfl, _⟩ := h; rfl)) (fun cdv A outer s H vs Q E hr tk pz h => ?_)
  have hu := hr.units
  have hrH := L2H.roomH_of hr
  obtain ⟨b, q, rfl, hB, k⟩ := h
  refine ⟨_, (pss_cons (ps_set (i := 1) sc__law_size.nd rfl (Or.inl rfl) (pe_callA G__law_draw (Room.mono hr (by decide)) T.n__law_draw tk (pa_cons (pv 0) (pa_cons pe_int pa_nil))))
      (pss_cons (ps_if (pt_cmpA (o_eq hu) (pv 1) pe_int (nomark _)) (pss_one (ps_ret (pe_callA G__law_draw (Room.mono hr (by decide)) T.n__law_draw tk (pa_cons (pv 0) (pa_cons pe_int pa_nil))))) pss_nil)
      (pss_cons (ps_if (pt_cmpA (o_eq hu) (pv 1) pe_int (nomark _)) (pss_one (ps_ret (pe_callA G__law_draw (Room.mono hr (by decide)) T.n__law_draw tk (pa_cons (pv 0) (pa_cons pe_int pa_nil))))) pss_nil)
      (pss_one (ps_ret (pe_op o_add pe_int (pv 1))))))), ?_⟩
  show (_ : Ends → L2.St → Hp → Prop) _ [some _, none] _
  try dsimp only [L2H.cxH, cxOf]
  walk_at "w"
  refine ⟨b, q, _, rfl, hB, by omega, by omega, fun r1 H1 r0 r1' B1 k1 => ?_⟩
  walk_at "w"
  refine w_ite (fun c => ?_) (fun c => ?_)
  · walk_at "w"
    refine ⟨b, q, _, rfl, B1, by omega, by omega, fun r2 H2 r20 r21 B2 k2 => ?_⟩
    exact k _ _ r20 (by omega) B2 (k1.trans k2)
  · walk_at "w"
    refine w_ite (fun c => ?_) (fun c => ?_)
    · walk_at "w"
      refine ⟨b, q, _, rfl, B1, by omega, by omega, fun r2 H2 r20 r21 B2 k2 => ?_⟩
      exact k _ _ r20 (by omega) B2 (k1.trans k2)
    · walk_at "w"
      exact k _ _ (by omega) (by omega) B1 k1
def sp__law_far_size (a : AD) : Sp := fun vs H Q _ => ∃ (b q : Addr), vs = [.ref b] ∧ Box H b q ∧ ∀ (r : Int) (H' : Hp), ¬(0 ≤ r ∧ r ≤ 60) → Box H' b q → Kp [b] H H' → Q (.int r) H'
theorem sc__law_far_size : FnScope ["_law_box_here"] ["_law_box_here"] (defScope s__law_far_size) := ⟨rfl, rfl, rfl, by decide +kernel, rfl, by decide +kernel, by decide +kernel⟩
theorem ok__law_far_size {P : Program} {w : World} {K : PySem.W.Frag} {mg : Str → Option Value} {base : Heap} {a : AD} (T : Txt P K mg a) (G__law_draw : FnA P w K mg base 2 a.f__law_draw ["_law_box_here", "_law_many"] (sp__law_draw a)) : FnA P w K mg base 3 a.f__law_far_size ["_law_box_here"] (sp__law_far_size a) := by
  obtain ⟨fd, F, b⟩ := T.F__law_far_size
  refine FnA.of F sc__law_far_size b (fun vs H Q E h => by first | (obtain ⟨rfl, _⟩ := h; rfl) | (obtain ⟨_, rfl, _⟩ := h; rfl) | (obtain ⟨_, _, rfl, _⟩ := h; rfl) | (obtain ⟨_, _, _, rfl, _⟩ := h; rfl) | (obtain ⟨_, _, _, _, rfl, _⟩ := h; rfl) | (obtain ⟨_, _, _, _, _, rfl, _⟩ := h; rfl) | (obtain ⟨_, _, _, _, _, _, rfl, _⟩ := h; rfl)) (fun cdv A outer s H vs Q E hr tk pz h => ?_)
  have hu := hr.units
  have hrH := L2H.roomH_of hr
  obtain ⟨b, q, rfl, hB, k⟩ := h
  refine ⟨_, (pss_cons (ps_if (pt_cmpA (o_eq hu) (pe_callA G__law_draw (Room.mono hr (by decide)) T.n__law_draw tk (pa_cons (pv 0) (pa_cons pe_int pa_nil))) pe_int (nomark _)) (pss_one (ps_ret (pe_op o_add pe_int (pe_op o_mul (pe_callA G__law_draw (Room.mono hr (by decide)) T.n__law_draw tk (pa_cons (pv 0) (pa_cons pe_int pa_nil))) (pe_op o_add pe_int (pe_callA G__law_draw (Room.mono hr (by decide)) T.n__law_draw tk (pa_cons (pv 0) (pa_cons (pe_op op_pow pe_int pe_int) pa_nil)))))))) pss_nil)
      (pss_one (ps_ret (pe_op op_sub (pe_un un_neg pe_int) (pe_op o_mul (pe_callA G__law_draw (Room.mono hr (by decide)) T.n__law_draw tk (pa_cons (pv 0) (pa_cons pe_int pa_nil))) (pe_op o_add pe_int (pe_callA G__law_draw (Room.mono hr (by decide)) T.n__law_draw tk (pa_cons (pv 0) (pa_cons (pe_op op_pow pe_int pe_int) pa_nil))))))))), ?_⟩
  show (_ : Ends → L2.St → Hp → Prop) _ [some _] _
  try dsimp only [L2H.cxH, cxOf]
  walk_at "w"
  refine ⟨b, q, _, rfl, hB, by omega, by omega, fun r1 H1 r0 r1' B1 k1 => ?_⟩
  walk_at "w"
  refine w_ite (fun c => ?_) (fun c => ?_)
  · walk_at "w"
    refine ⟨b, q, _, rfl, B1, by omega, by omega, fun r2 H2 r20 r21 B2 k2 => ?_⟩
    walk_at "w"
    refine ⟨b, q, _, rfl, B2, by decide, by decide, fun r3 H3 r30 r31 B3 k3 => ?_⟩
    walk_at "w"
    have := Int.mul_nonneg r20 (show 0 ≤ 1 + r3 by omega)
    exact k _ _ (by omega) B3 ((k1.trans k2).trans k3)
  · walk_at "w"
    refine ⟨b, q, _, rfl, B1, by omega, by omega, fun r2 H2 r20 r21 B2 k2 => ?_⟩
    walk_at "w"
    refine ⟨b, q, _, rfl, B2, by decide, by decide, fun r3 H3 r30 r31 B3 k3 => ?_⟩
    walk_at "w"
    have := Int.mul_nonneg r20 (show 0 ≤ 1 + r3 by omega)
    exact k _ _ (by omega) B3 ((k1.trans k2).trans k3)
def sp__law_rows (a : AD) : Sp := fun vs H Q _ => ∃ (b q : Addr) (n : Int), vs = [.ref b, .int n] ∧ Box H b q ∧ 0 ≤ n ∧ n ≤ 60 ∧ ∀ (l : Addr) (log : List Int) (H' : Hp), H l = none → l ≠ b → l ≠ q → H' l = some (.lst (log.map V.int)) → (∀ o ∈ log, IsOp n o) → log.length ≤ 60 → Box H' b q → Kp [b] H H' → Q (.ref l) H'
theorem sc__law_rows : FnScope ["_law_box_here", "_law_size_here", "_law_log", "_law_count", "_law_near", "_law_k", "_law_node"] ["_law_box_here", "_law_size_here"] (defScope s__law_rows) := ⟨rfl, rfl, rfl, by decide +kernel, rfl, by decide +kernel, by decide +kernel⟩
theorem ok__law_rows {P : Program} {w : World} {K : PySem.W.Frag} {mg : Str → Option Value} {base : Heap} {a : AD} (T : Txt P K mg a) (G__law_draw : FnA P w K mg base 2 a.f__law_draw ["_law_box_here", "_law_many"] (sp__law_draw a)) : FnA P w K mg base 3 a.f__law_rows ["_law_box_here", "_law_size_here"] (sp__law_rows a) := by
  obtain ⟨fd, F, b⟩ := T.F__law_rows
  refine FnA.of F sc__law_rows b (fun vs H Q E h => by first | (obtain ⟨rfl, _⟩ := h; rfl) | (obtain ⟨_, rfl, _⟩ := h; rfl) | (obtain ⟨_, _, rfl, _⟩ := h; rfl) | (obtain ⟨_, _, _, rfl, _⟩ := h; rfl) | (obtain ⟨_, _, _, _, rfl, _⟩ := h; rfl) | (obtain ⟨_, _, _, _, _, rfl, _⟩ := h; rfl) | (obtain ⟨_, _, _, _, _, _, rfl, _⟩ := h; rfl)) (fun cdv A outer s H vs Q E hr tk pz h => ?_)
  have hu := hr.units
  have hrH := L2H.roomH_of hr
  obtain ⟨b, q, n, rfl, hB, n0, n1, k⟩ := h
  refine ⟨_, (pss_cons (ps_set (i := 2) sc__law_rows.nd rfl (Or.inl rfl) (pe_lst pa_nil))
      (pss_cons (ps_if (pt_cmpA (o_eq hu) (pv 1) pe_int (nomark _)) (pss_one (ps_ret (pv 2))) pss_nil)
      (pss_cons (ps_set (i := 3) sc__law_rows.nd rfl (Or.inl rfl) (pe_callA G__law_draw (Room.mono hr (by decide)) T.n__law_draw tk (pa_cons (pv 0) (pa_cons pe_int pa_nil))))
      (pss_cut (ps_if (pt_cmpA (o_eq hu) (pv 3) pe_int (nomark _)) (pss_one (ps_set (i := 3) sc__law_rows.nd rfl (Or.inl rfl) (pe_op o_add pe_int (pe_callA G__law_draw (Room.mono hr (by decide)) T.n__law_draw tk (pa_cons (pv 0) (pa_cons pe_int pa_nil)))))) pss_nil)
      (pss_cons (ps_set (i := 4) sc__law_rows.nd rfl (Or.inl rfl) (pe_callA G__law_draw (Room.mono hr (by decide)) T.n__law_draw tk (pa_cons (pv 0) (pa_cons (pv 1) pa_nil))))
      (pss_cons (ps_for pz rfl (pi_range1 rfl T.b_range (pa_cons (pv 3) pa_nil)) (pg_name (i := 5) sc__law_rows.nd rfl (Or.inl rfl))
      (pss_cons (ps_set (i := 6) sc__law_rows.nd rfl (Or.inl rfl) (pe_op o_add pe_int (pe_callA G__law_draw (Room.mono hr (by decide)) T.n__law_draw tk (pa_cons (pv 0) (pa_cons (pv 1) pa_nil)))))
      (pss_cut (ps_if (pt_cmpA (o_eq hu) (pe_callA G__law_draw (Room.mono hr (by decide)) T.n__law_draw tk (pa_cons (pv 0) (pa_cons pe_int pa_nil))) pe_int (nomark _)) (pss_one (ps_set (i := 6) sc__law_rows.nd rfl (Or.inl rfl) (pe_op o_add pe_int (pe_op op_mod (pe_callTy b_int rfl T.b_int (by decide +kernel) (pa_cons (pe_op o_add (pv 4) (pe_op op_mod (pe_callTy b_int rfl T.b_int (by decide +kernel) (pa_cons (pv 6) pa_nil)) pe_int)) pa_nil)) (pv 1))))) pss_nil)
      (pss_one (ps_if (pt_cmpA (o_eq hu) (pe_callA G__law_draw (Room.mono hr (by decide)) T.n__law_draw tk (pa_cons (pv 0) (pa_cons pe_int pa_nil))) pe_int (nomark _)) (pss_one (ps_expr (pe_bm PySem.F.plainAttrs_list PySem.F.slot_list_append PySem.F.type_list_append mt_append (pv 2) (pa_cons (pe_un un_neg (pv 6)) pa_nil)))) (pss_one (ps_expr (pe_bm PySem.F.plainAttrs_list PySem.F.slot_list_append PySem.F.type_list_append mt_append (pv 2) (pa_cons (pv 6) pa_nil)))))))))
      (pss_one (ps_ret (pv 2))))))))), ?_⟩
  show (_ : Ends → L2.St → Hp → Prop) _ [some _, some _, none, none, none, none, none] _
  try dsimp only [L2H.cxH, cxOf]
  walk_at "w"
  intro l hl
  have lb := hB.b hl
  have lq := hB.q hl
  have hB1 : Box (upd H l (.lst [])) b q := hB.new hl
  have hl1 : upd H l (.lst []) l = some (.lst (([] : List Int).map V.int)) := upd_same
  have hk1 : Kp [b] H (upd H l (.lst [])) := Kp.refl.new hl
  walk_at "w"
  refine w_ite (fun c => ?_) (fun c => ?_)
  · walk_at "w"
    exact k l [] _ hl lb lq hl1 (fun o z => by cases z) (by simp) hB1 hk1
  · walk_at "w"
    refine ⟨b, q, _, rfl, hB1, by omega, by omega, fun r1 H1 r10 r11 B1 k1 => ?_⟩
    walk_at "w"
    refine s_cut (fun σ' H' => ∃ m : Int, σ' = [some (.ref b), some (.int n), some (.ref l), some (.int m), none, none, none] ∧ 0 ≤ m ∧ m ≤ 48 ∧ Box H' b q ∧ Kp [b] H H' ∧ H' l = some (.lst (([] : List Int).map V.int))) ?_ ?_
    · walk_at "w"
      refine w_ite (fun c1 => ?_) (fun c1 => ?_)
      · walk_at "w"
        refine ⟨b, q, _, rfl, B1, by omega, by omega, fun r2 H2 r20 r21 B2 k2 => ?_⟩
        walk_at "w"
        exact ⟨_, rfl, by omega, by omega, B2, (hk1.trans k1).trans k2, by walk_at "hp"⟩
      · walk_at "w"
        exact ⟨_, rfl, by omega, by omega, B1, hk1.trans k1, by walk_at "hp"⟩
    · rintro σ' H2 ⟨m, rfl, m0, m1, B2, k2, hl2⟩
      walk_at "w"
      refine ⟨b, q, _, rfl, B2, by omega, by omega, fun r3 H3 r30 r31 B3 k3 => ?_⟩
      walk_at "w"
      refine w_rng1 (n := m) (by omega) (by omega) (fun i σ' H' => ∃ (log : List Int) (x y : Option V), σ' = [some (.ref b), some (.int n), some (.ref l), some (.int m), some (.int r3), x, y] ∧ H' l = some (.lst (log.map V.int)) ∧ log.length = i ∧ (∀ o ∈ log, IsOp n o) ∧ Box H' b q ∧ Kp [b] H H') ⟨[], _, _, rfl, by walk_at "hp", rfl, fun o z => by (cases z), B3, k2.trans k3⟩ ?_ ?_
      · rintro i σ' H' hi ⟨log, x, y, rfl, hll, hlen, hops, B4, k4⟩
        walk_at "w"
        refine ⟨b, q, _, rfl, B4, by omega, by omega, fun r5 H5 r50 r51 B5 k5 => ?_⟩
        walk_at "w"
        refine s_cut (fun σ' H' => ∃ v : Int, σ' = [some (.ref b), some (.int n), some (.ref l), some (.int m), some (.int r3), some (.int (i : Int)), some (.int v)] ∧ 1 ≤ v ∧ v ≤ n ∧ Box H' b q ∧ Kp [b] H H' ∧ H' l = some (.lst (log.map V.int))) ?_ ?_
        · walk_at "w"
          refine ⟨b, q, _, rfl, B5, by omega, by omega, fun r6 H6 r60 r61 B6 k6 => ?_⟩
          walk_at "w"
          refine w_ite (fun c1 => ?_) (fun c1 => ?_)
          · walk_at "w"
            have e1 := Int.emod_nonneg (r3 + (1 + r5) % 3) (show n ≠ 0 by omega)
            have e2 := Int.emod_lt_of_pos (r3 + (1 + r5) % 3) (show 0 < n by omega)
            exact ⟨_, rfl, by omega, by omega, B6, (k4.trans k5).trans k6, by walk_at "hp"⟩
          · walk_at "w"
            exact ⟨_, rfl, by omega, by omega, B6, (k4.trans k5).trans k6, by walk_at "hp"⟩
        · rintro σ' H7 ⟨v, rfl, v0, v1, B7, k7, hl7⟩
          walk_at "w"
          refine ⟨b, q, _, rfl, B7, by omega, by omega, fun r8 H8 r80 r81 B8 k8 => ?_⟩
          have hl8 : H8 l = some (.lst (log.map V.int)) := by walk_at "hp"
          walk_at "w"
          refine w_ite (fun c1 => ?_) (fun c1 => ?_)
          · walk_at "w"
            refine ⟨_, _, _, rfl, upd_same, by simp; exact hlen, fun o ho => ?_, B8.mut lb lq, (k7.trans k8).own hl⟩
            rcases List.mem_append.mp ho with z | z
            · exact hops o z
            · rw [List.mem_singleton] at z
              subst z
              exact ⟨by omega, by omega⟩
          · walk_at "w"
            refine ⟨_, _, _, rfl, upd_same, by simp; exact hlen, fun o ho => ?_, B8.mut lb lq, (k7.trans k8).own hl⟩
            rcases List.mem_append.mp ho with z | z
            · exact hops o z
            · rw [List.mem_singleton] at z
              subst z
              exact ⟨by omega, by omega⟩
      · rintro σ' H' ⟨log, x, y, rfl, hll, hlen, hops, B4, k4⟩
        walk_at "w"
        exact k l log _ hl lb lq hll hops (by omega) B4 k4
def sp__law_bent (a : AD) : Sp := fun vs H Q _ => ∃ (b q : Addr) (n : Int) (l : Addr) (log : List Int), vs = [.ref b, .int n, .ref l] ∧ Box H b q ∧ 0 ≤ n ∧ n ≤ 60 ∧ H l = some (.lst (log.map V.int)) ∧ log.length ≤ 100 ∧ l ≠ b ∧ ∀ (r : Addr) (bent : List Int) (H' : Hp), H r = none → r ≠ b → H' r = some (.lst (bent.map V.int)) → (∃ o ∈ bent, ¬IsOp n o) → bent.length ≤ log.length + 2 → Box H' b q → Kp [b] H H' → Q (.ref r) H'
theorem mem_insAt {α : Type} {us : List α} {i : Nat} {u x : α} : x ∈ insAt us i u ↔ x = u ∨ x ∈ us := by
  unfold insAt
  have : x ∈ us ↔ x ∈ us.take i ∨ x ∈ us.drop i := by
    rw [← List.mem_append, List.take_append_drop]
  rw [this]
  simp only [List.mem_append, List.mem_singleton]
  constructor
  · rintro ((h | h) | h)
    · exact .inr (.inl h)
    · exact .inl h
    · exact .inr (.inr h)
  · rintro (h | h | h)
    · exact .inl (.inr h)
    · exact .inl (.inl h)
    · exact .inr h
theorem len_insAt {α : Type} {us : List α} {i : Nat} {u : α} : (insAt us i u).length = us.length + 1 := by
  unfold insAt
  simp
  omega
theorem sc__law_bent : FnScope ["_law_box_here", "_law_size_here", "_law_log", "_law_bent_here", "_law_turn", "_law_wrong", "_law_kind"] ["_law_box_here", "_law_size_here", "_law_log"] (defScope s__law_bent) := ⟨rfl, rfl, rfl, by decide +kernel, rfl, by decide +kernel, by decide +kernel⟩
theorem ok__law_bent {P : Program} {w : World} {K : PySem.W.Frag} {mg : Str → Option Value} {base : Heap} {a : AD} (T : Txt P K mg a) (G__law_draw : FnA P w K mg base 2 a.f__law_draw ["_law_box_here", "_law_many"] (sp__law_draw a)) : FnA P w K mg base 3 a.f__law_bent ["_law_box_here", "_law_size_here", "_law_log"] (sp__law_bent a) := by
  obtain ⟨fd, F, b⟩ := T.F__law_bent
  refine FnA.of F sc__law_bent b (fun vs H Q E h => by first | (obtain ⟨rfl, _⟩ := h; rfl) | (obtain ⟨_, rfl, _⟩ := h; rfl) | (obtain ⟨_, _, rfl, _⟩ := h; rfl) | (obtain ⟨_, _, _, rfl, _⟩ := h; rfl) | (obtain ⟨_, _, _, _, rfl, _⟩ := h; rfl) | (obtain ⟨_, _, _, _, _, rfl, _⟩ := h; rfl) | (obtain ⟨_, _, _, _, _, _, rfl, _⟩ := h; rfl)) (fun cdv A outer s H vs Q E hr tk pz h => ?_)
  have hu := hr.units
  have hrH := L2H.roomH_of hr
  obtain ⟨b, q, n, l, log, rfl, hB, n0, n1, hl, hlen, lb, k⟩ := h
  refine ⟨_, (pss_cons (ps_set (i := 3) sc__law_bent.nd rfl (Or.inl rfl) (pe_callTy b_list rfl T.b_list (by decide +kernel) (pa_cons (pv 2) pa_nil)))
      (pss_cons (ps_for pz rfl (pi_range1 rfl T.b_range (pa_cons (pe_op o_add pe_int (pe_callA G__law_draw (Room.mono hr (by decide)) T.n__law_draw tk (pa_cons (pv 0) (pa_cons pe_int pa_nil)))) pa_nil)) (pg_name (i := 4) sc__law_bent.nd rfl (Or.inl rfl))
      (pss_cons (ps_set (i := 5) sc__law_bent.nd rfl (Or.inl rfl) pe_int)
      (pss_cons (ps_set (i := 6) sc__law_bent.nd rfl (Or.inl rfl) (pe_callA G__law_draw (Room.mono hr (by decide)) T.n__law_draw tk (pa_cons (pv 0) (pa_cons pe_int pa_nil))))
      (pss_cut (ps_if (PW.pt (pw_or (pt_cmpA (o_eq hu) (pv 6) pe_int (nomark _)) (pw_or1 (pt_cmpA (o_eq hu) (pv 6) pe_int (nomark _))))) (pss_one (ps_set (i := 5) sc__law_bent.nd rfl (Or.inl rfl) (pe_op o_add (pv 1) pe_int))) pss_nil)
      (pss_cut (ps_if (pt_cmpA op_gt (pv 6) pe_int (nomark _)) (pss_one (ps_set (i := 5) sc__law_bent.nd rfl (Or.inl rfl) (pe_op o_add (pe_op o_add (pv 1) pe_int) (pe_callA G__law_draw (Room.mono hr (by decide)) T.n__law_draw tk (pa_cons (pv 0) (pa_cons (pe_op op_pow pe_int pe_int) pa_nil)))))) pss_nil)
      (pss_cut (ps_if (PW.pt (pw_or (pt_cmpA (o_eq hu) (pv 6) pe_int (nomark _)) (pw_or1 (pt_cmpA (o_eq hu) (pv 6) pe_int (nomark _))))) (pss_one (ps_set (i := 5) sc__law_bent.nd rfl (Or.inl rfl) (pe_un un_neg (pv 5)))) pss_nil)
      (pss_one (ps_expr (pe_bm PySem.F.plainAttrs_list PySem.F.slot_list_insert PySem.F.type_list_insert m_insert (pv 3) (pa_cons (pe_callA G__law_draw (Room.mono hr (by decide)) T.n__law_draw tk (pa_cons (pv 0) (pa_cons (pe_op o_add (pe_callB (b_len) rfl T.b_len (by decide +kernel) (pa_cons (pv 3) pa_nil)) pe_int) pa_nil))) (pa_cons (pv 5) pa_nil)))))))))))
      (pss_one (ps_ret (pv 3))))), ?_⟩
  show (_ : Ends → L2.St → Hp → Prop) _ [some _, some _, some _, none, none, none, none] _
  try dsimp only [L2H.cxH, cxOf]
  walk_at "w"
  intro r hr
  have rb := hB.b hr
  have rq := hB.q hr
  have hr1 : upd H r (.lst (log.map V.int)) r = some (.lst (log.map V.int)) := upd_same
  walk_at "w"
  refine ⟨b, q, _, rfl, hB.new hr, by omega, by omega, fun t H1 t0 t1 B1 k1 => ?_⟩
  walk_at "w"
  refine w_rng1 (n := 1 + t) (by omega) (by omega) (fun i σ' H' => ∃ (bent : List Int) (x y z : Option V), σ' = [some (.ref b), some (.int n), some (.ref l), some (.ref r), x, y, z] ∧ H' r = some (.lst (bent.map V.int)) ∧ bent.length = log.length + i ∧ (0 < i → ∃ o ∈ bent, ¬IsOp n o) ∧ Box H' b q ∧ Kp [b] H H') ⟨log, _, _, _, rfl, by walk_at "hp", rfl, fun z => by omega, B1, (Kp.refl.new hr).trans k1⟩ ?_ ?_
  · rintro i σ' H' hi ⟨bent, x, y, z, rfl, hrl, hbl, hbad, B2, k2⟩
    walk_at "w"
    refine ⟨b, q, _, rfl, B2, by omega, by omega, fun d H3 d0 d1 B3 k3 => ?_⟩
    have hr3 : H3 r = some (.lst (bent.map V.int)) := by walk_at "hp"
    walk_at "w"
    refine s_cut (fun σ' H' => ∃ v : Int, σ' = [some (.ref b), some (.int n), some (.ref l), some (.ref r), some (.int (i : Int)), some (.int v), some (.int d)] ∧ H' = H3 ∧ ((d ≠ 1 ∧ d ≠ 2 ∧ v = 0) ∨ v = n + 1)) ?_ ?_
    · walk_at "w"
      refine w_ite (fun c1 => ?_) (fun c1 => ?_)
      · walk_at "w"
        exact ⟨_, rfl, rfl, .inr rfl⟩
      · walk_at "w"
        refine w_ite (fun c2 => ?_) (fun c2 => ?_)
        · walk_at "w"
          exact ⟨_, rfl, rfl, .inr rfl⟩
        · walk_at "w"
          exact ⟨_, rfl, rfl, .inl ⟨c1, c2, rfl⟩⟩
    · rintro σ' H4 ⟨v, rfl, rfl, hv⟩
      refine s_cut (fun σ' H' => ∃ v : Int, σ' = [some (.ref b), some (.int n), some (.ref l), some (.ref r), some (.int (i : Int)), some (.int v), some (.int d)] ∧ H' r = some (.lst (bent.map V.int)) ∧ Box H' b q ∧ Kp [b] H H' ∧ (v = 0 ∨ n < v)) ?_ ?_
      · walk_at "w"
        refine w_ite (fun c1 => ?_) (fun c1 => ?_)
        · walk_at "w"
          refine ⟨b, q, _, rfl, B3, by decide, by decide, fun e H5 e0 e1 B5 k5 => ?_⟩
          walk_at "w"
          exact ⟨_, rfl, by walk_at "hp", B5, (k2.trans k3).trans k5, .inr (by omega)⟩
        · walk_at "w"
          exact ⟨_, rfl, by walk_at "hp", B3, k2.trans k3, by omega⟩
      · rintro σ' H5 ⟨v, rfl, hr5, B5, k5, hv⟩
        refine s_cut (fun σ' H' => ∃ v : Int, σ' = [some (.ref b), some (.int n), some (.ref l), some (.ref r), some (.int (i : Int)), some (.int v), some (.int d)] ∧ H' = H5 ∧ ¬IsOp n v) ?_ ?_
        · walk_at "w"
          refine w_ite (fun c1 => ?_) (fun c1 => ?_)
          · walk_at "w"
            exact ⟨_, rfl, rfl, fun z => by have := z.1; have := z.2; omega⟩
          · walk_at "w"
            refine w_ite (fun c2 => ?_) (fun c2 => ?_)
            · walk_at "w"
              exact ⟨_, rfl, rfl, fun z => by have := z.1; have := z.2; omega⟩
            · walk_at "w"
              exact ⟨_, rfl, rfl, fun z => by have := z.1; have := z.2; omega⟩
        · rintro σ' H6 ⟨v, rfl, rfl, hv⟩
          walk_at "w"
          refine ⟨b, q, _, rfl, B5, by omega, by omega, fun p H7 p0 p1 B7 k7 => ?_⟩
          have hr7 : H7 r = some (.lst (bent.map V.int)) := by walk_at "hp"
          walk_at "w"
          exact ⟨_, _, _, _, rfl, upd_same, by rw [len_insAt]; omega, fun _ => ⟨v, mem_insAt.mpr (.inl rfl), hv⟩, B7.mut rb rq, (k5.trans k7).own hr⟩
  · rintro σ' H' ⟨bent, x, y, z, rfl, hrl, hbl, hbad, B2, k2⟩
    walk_at "w"
    exact k r bent _ hr rb hrl (hbad (by omega)) (by omega) B2 k2
/-! ### the mathematics of strikes -/
/-- one turn of most_kept at a node: the longest choices that end in and out -/
def nd1o (v : Int) (s : Int × Int) (o : Int) : Int := if o = -v then max s.2 (s.1 + 1) else s.2
def nd1 (v : Int) (s : Int × Int) (o : Int) : Int × Int := (if o = v ∧ nd1o v s o > 0 then max s.1 (nd1o v s o + 1) else s.1, nd1o v s o)
theorem nd1_away {v o : Int} {s : Int × Int} (h1 : o ≠ v) (h2 : o ≠ -v) : nd1 v s o = s := by
  unfold nd1 nd1o
  rw [if_neg h2, if_neg (fun z => h1 z.1)]
theorem nd1_out {v o : Int} {s : Int × Int} (h : o = -v) (hv : 0 < v) : nd1 v s o = (s.1, max s.2 (s.1 + 1)) := by
  have e : nd1o v s o = max s.2 (s.1 + 1) := if_pos h
  unfold nd1
  rw [e, if_neg (fun z => by have := z.1; omega)]
theorem nd1_in {v o : Int} {s : Int × Int} (h : o = v) (hv : 0 < v) : nd1 v s o = (if s.2 > 0 then max s.1 (s.2 + 1) else s.1, s.2) := by
  have e : nd1o v s o = s.2 := if_neg (by omega)
  unfold nd1
  rw [e]
  by_cases z : s.2 > 0
  · rw [if_pos ⟨h, z⟩, if_pos z]
  · rw [if_neg (fun q => z q.2), if_neg z]
def nd (v : Int) (log : List Int) : Int × Int := log.foldl (nd1 v) (0, 0)
theorem nd_snoc (v : Int) (l : List Int) (o : Int) : nd v (l ++ [o]) = nd1 v (nd v l) o := by
  unfold nd
  rw [List.foldl_append]; rfl
def ndMax (v : Int) (log : List Int) : Int := max (nd v log).1 (nd v log).2
def sumTo (f : Int → Int) : Nat → Int
  | 0 => 0
  | k + 1 => sumTo f k + f (1 + (k : Int))
def mostKept (n : Int) (log : List Int) : Int := sumTo (fun v => ndMax v log) n.toNat
theorem sumTo_congr {f g : Int → Int} : ∀ {k : Nat}, (∀ i : Nat, i < k → f (1 + (i : Int)) = g (1 + (i : Int))) → sumTo f k = sumTo g k
  | 0, _ => rfl
  | k + 1, h => by
    rw [sumTo, sumTo, sumTo_congr (fun i hi => h i (by omega)), h k (by omega)]
theorem sumTo_bump {f g : Int → Int} {w : Nat} : ∀ {k : Nat}, w < k → (∀ i : Nat, i < k → i ≠ w → f (1 + (i : Int)) = g (1 + (i : Int))) → f (1 + (w : Int)) = g (1 + (w : Int)) + 1 → sumTo f k = sumTo g k + 1
  | 0, h, _, _ => by omega
  | k + 1, h, h1, h2 => by
    rw [sumTo, sumTo]
    by_cases z : w = k
    · subst z
      rw [sumTo_congr (fun i hi => h1 i (by omega) (by omega)), h2]
      omega
    · rw [sumTo_bump (w := w) (by omega) (fun i hi hn => h1 i (by omega) hn) h2, h1 k (by omega) (fun q => z q.symm)]
      omega
/-- what the node's two numbers are, by the node's flag -/
def NdOk (f : Bool) (s : Int × Int) : Prop := 0 ≤ s.1 ∧ 0 ≤ s.2 ∧ if f = true then s.2 = s.1 + 1 ∨ (s.2 = 1 ∧ s.1 = 0) else (s.1 = 0 ∧ s.2 = 0) ∨ (s.1 = s.2 + 1 ∧ 1 ≤ s.2)
theorem getD_set_eq {α : Type} [Inhabited α] {us : List α} {i : Nat} {u : α} (h : i < us.length) : (us.set i u).getD i default = u := by
  simp [List.getD, h]
theorem getD_set_ne {α : Type} [Inhabited α] {us : List α} {i j : Nat} {u : α} (h : i ≠ j) : (us.set i u).getD j default = us.getD j default := by
  simp [List.getD, List.getElem?_set_ne h]
theorem kept_main (n : Int) (n0 : 0 ≤ n) (log : List Int) : (∀ o ∈ log, IsOp n o) → (∀ i : Nat, i < n.toNat → NdOk ((stk n log).1.getD (i + 1) default) (nd (1 + (i : Int)) log)) ∧ mostKept n log + (struck n log).length = log.length := by
  suffices h : ∀ (r : List Int), (∀ o ∈ r.reverse, IsOp n o) → (∀ i : Nat, i < n.toNat → NdOk ((stk n r.reverse).1.getD (i + 1) default) (nd (1 + (i : Int)) r.reverse)) ∧ mostKept n r.reverse + (struck n r.reverse).length = r.reverse.length by
    have := h log.reverse
    rw [List.reverse_reverse] at this
    exact this
  intro r
  induction r with
  | nil =>
    intro _
    refine ⟨fun i hi => ?_, ?_⟩
    · show NdOk ((List.replicate (n + 1).toNat false).getD (i + 1) default) (0, 0)
      have e : (List.replicate (n + 1).toNat false).getD (i + 1) default = false := by
        simp [List.getD, List.getElem?_replicate]
        split <;> rfl
      rw [e]
      exact ⟨Int.le_refl 0, Int.le_refl 0, .inl ⟨rfl, rfl⟩⟩
    · have : ∀ k, sumTo (fun v => ndMax v []) k = 0 := by
        intro k
        induction k with
        | zero => rfl
        | succ k ih => rw [sumTo, ih]; rfl
      show sumTo _ _ + _ = _
      rw [List.reverse_nil, this]; rfl
  | cons o r ih =>
    intro hok
    rw [List.reverse_cons] at hok ⊢
    obtain ⟨ih1, ih2⟩ := ih (fun x hx => hok x (List.mem_append_left _ hx))
    have ho := hok o (List.mem_append_right _ (List.mem_singleton.mpr rfl))
    have hfl := stk_flags n r.reverse
    have ho1 := ho.1
    have ho2 := ho.2
    have hw : o.natAbs - 1 < n.toNat := by omega
    have hv : (1 + ((o.natAbs - 1 : Nat) : Int)) = (o.natAbs : Int) := by omega
    have hwi : o.natAbs - 1 + 1 = o.natAbs := by omega
    have hW := ih1 (o.natAbs - 1) hw
    rw [hv, hwi] at hW
    -- away from the node nothing changes
    have away : ∀ i : Nat, i < n.toNat → i ≠ o.natAbs - 1 → nd (1 + (i : Int)) (r.reverse ++ [o]) = nd (1 + (i : Int)) r.reverse := by
      intro i hi hne
      rw [nd_snoc]
      exact nd1_away (by omega) (by omega)
    unfold mostKept struck
    rw [stk_snoc]
    unfold struck at ih2
    unfold mostKept at ih2
    have hlen := List.length_append (as := r.reverse) (bs := [o])
    by_cases hs : (stk n r.reverse).1.getD o.natAbs default = decide (o < 0)
    · -- struck
      have e1 : (stk1 (stk n r.reverse) o).1 = (stk n r.reverse).1 := by unfold stk1; rw [if_pos hs]
      have e2 : (stk1 (stk n r.reverse) o).2.1 = (stk n r.reverse).2.1 ++ [((stk n r.reverse).2.2 : Int)] := by unfold stk1; rw [if_pos hs]
      have here : nd (o.natAbs : Int) (r.reverse ++ [o]) = nd (o.natAbs : Int) r.reverse := by
        rw [nd_snoc]
        obtain ⟨h1, h2, h3⟩ := hW
        rw [hs] at h3
        generalize nd (o.natAbs : Int) r.reverse = s at h1 h2 h3
        obtain ⟨x, y⟩ := s
        dsimp only at h1 h2 h3
        by_cases hneg : o < 0
        · rw [show decide (o < 0) = true by simpa using hneg, if_pos rfl] at h3
          rw [nd1_out (by omega) (by omega)]
          dsimp only
          rw [show max y (x + 1) = y by omega]
        · rw [show decide (o < 0) = false by simpa using hneg, if_neg Bool.false_ne_true] at h3
          rw [nd1_in (by omega) (by omega)]
          dsimp only
          by_cases hy : y > 0
          · rw [if_pos hy, show max x (y + 1) = x by omega]
          · rw [if_neg hy]
      have all : ∀ i : Nat, i < n.toNat → nd (1 + (i : Int)) (r.reverse ++ [o]) = nd (1 + (i : Int)) r.reverse := by
        intro i hi
        by_cases z : i = o.natAbs - 1
        · subst z
          rw [hv]; exact here
        · exact away i hi z
      refine ⟨fun i hi => ?_, ?_⟩
      · rw [e1, all i hi]
        exact ih1 i hi
      · rw [e2, sumTo_congr (g := fun v => ndMax v r.reverse) (fun i hi => by show max _ _ = max _ _; rw [all i hi]), List.length_append]
        simp only [List.length_append, List.length_cons, List.length_nil]
        push_cast
        omega
    · have e1 : (stk1 (stk n r.reverse) o).1 = (stk n r.reverse).1.set o.natAbs (decide (o < 0)) := by unfold stk1; rw [if_neg hs]
      have e2 : (stk1 (stk n r.reverse) o).2.1 = (stk n r.reverse).2.1 := by unfold stk1; rw [if_neg hs]
      have here : NdOk (decide (o < 0)) (nd (o.natAbs : Int) (r.reverse ++ [o])) ∧ ndMax (o.natAbs : Int) (r.reverse ++ [o]) = ndMax (o.natAbs : Int) r.reverse + 1 := by
        unfold ndMax
        rw [nd_snoc]
        obtain ⟨h1, h2, h3⟩ := hW
        have hs' : (stk n r.reverse).1.getD o.natAbs default = !decide (o < 0) := by
          revert hs
          cases (stk n r.reverse).1.getD o.natAbs default <;> cases decide (o < 0) <;> simp
        rw [hs'] at h3
        generalize nd (o.natAbs : Int) r.reverse = s at h1 h2 h3
        obtain ⟨x, y⟩ := s
        dsimp only at h1 h2 h3
        unfold NdOk
        by_cases hneg : o < 0
        · rw [show decide (o < 0) = true by simpa using hneg] at h3 ⊢
          rw [if_neg (by decide)] at h3
          rw [nd1_out (by omega) (by omega), if_pos rfl]
          dsimp only
          omega
        · rw [show decide (o < 0) = false by simpa using hneg] at h3 ⊢
          rw [if_pos (by decide)] at h3
          rw [nd1_in (by omega) (by omega)]
          dsimp only
          rw [if_pos (show y > 0 by omega), if_neg Bool.false_ne_true]
          omega
      refine ⟨fun i hi => ?_, ?_⟩
      · rw [e1]
        by_cases z : i = o.natAbs - 1
        · subst z
          rw [hv, hwi, getD_set_eq (by omega)]
          exact here.1
        · rw [away i hi z, getD_set_ne (by omega)]
          exact ih1 i hi
      · rw [e2, sumTo_bump (w := o.natAbs - 1) (g := fun v => ndMax v r.reverse) hw (fun i hi z => by show max _ _ = max _ _; rw [away i hi z]) (by show ndMax _ _ = ndMax _ _ + 1; rw [hv]; exact here.2)]
        simp only [List.length_append, List.length_cons, List.length_nil]
        push_cast
        omega
theorem mostKept_eq {n : Int} (n0 : 0 ≤ n) {log : List Int} (h : ∀ o ∈ log, IsOp n o) : (log.length : Int) - (struck n log).length = mostKept n log := by
  have := (kept_main n n0 log h).2
  omega
/-- struck indexes are below the length, and a longer log has the shorter one's first -/
theorem struck_lt (n : Int) (log : List Int) : ∀ i ∈ struck n log, 0 ≤ i ∧ i < log.length := by
  suffices h : ∀ (r : List Int), ∀ i ∈ struck n r.reverse, 0 ≤ i ∧ i < r.reverse.length by
    have := h log.reverse
    rw [List.reverse_reverse] at this
    exact this
  intro r
  induction r with
  | nil => intro i hi; cases hi
  | cons o r ih =>
    intro i hi
    rw [List.reverse_cons] at hi ⊢
    unfold struck at hi
    rw [stk_snoc] at hi
    unfold stk1 at hi
    rw [List.length_append]
    split at hi
    · rcases List.mem_append.mp hi with z | z
      · have := ih i z
        simp at this ⊢; omega
      · rw [List.mem_singleton, stk_idx] at z
        subst z
        simp
        omega
    · have := ih i hi
      simp at this ⊢; omega
theorem struck_app (n : Int) (l m : List Int) : ∃ t, struck n (l ++ m) = struck n l ++ t ∧ ∀ i ∈ t, (l.length : Int) ≤ i := by
  suffices h : ∀ (r : List Int), ∃ t, struck n (l ++ r.reverse) = struck n l ++ t ∧ ∀ i ∈ t, (l.length : Int) ≤ i by
    have := h m.reverse
    rw [List.reverse_reverse] at this
    exact this
  intro r
  induction r with
  | nil => exact ⟨[], by simp, fun i z => by cases z⟩
  | cons o r ih =>
    obtain ⟨t, e, h⟩ := ih
    rw [List.reverse_cons, ← List.append_assoc]
    unfold struck at e ⊢
    rw [stk_snoc]
    by_cases z : (stk n (l ++ r.reverse)).1.getD o.natAbs default = decide (o < 0)
    · refine ⟨t ++ [((stk n (l ++ r.reverse)).2.2 : Int)], ?_, fun i hi => ?_⟩
      · unfold stk1
        rw [if_pos z, e, List.append_assoc]
      · rcases List.mem_append.mp hi with q | q
        · exact h i q
        · rw [List.mem_singleton, stk_idx] at q
          subst q
          rw [List.length_append]
          omega
    · refine ⟨t, ?_, h⟩
      unfold stk1
      rw [if_neg z, e]
theorem struck_first {n : Int} {log : List Int} {i : Int} {t : List Int} (e : struck n log = i :: t) : struck n (log.take i.toNat) = [] := by
  obtain ⟨t', e', h'⟩ := struck_app n (log.take i.toNat) (log.drop i.toNat)
  rw [List.take_append_drop, e] at e'
  have hi := struck_lt n log i (by rw [e]; exact List.mem_cons_self)
  cases q : struck n (log.take i.toNat) with
  | nil => rfl
  | cons j u =>
    rw [q, List.cons_append] at e'
    injection e' with e1 e2
    subst e1
    have := struck_lt n (log.take i.toNat) i (by rw [q]; exact List.mem_cons_self)
    rw [List.length_take] at this
    omega
theorem fm_congr {α β : Type} {f g : α → Option β} : ∀ {l : List α}, (∀ x ∈ l, f x = g x) → l.filterMap f = l.filterMap g
  | [], _ => rfl
  | x :: l, h => by
    rw [List.filterMap_cons, List.filterMap_cons, h x List.mem_cons_self, fm_congr (fun y hy => h y (List.mem_cons_of_mem _ hy))]
/-- the operations that are kept -/
def rest (n : Int) (log : List Int) : List Int := (List.range log.length).filterMap fun k : Nat => if ((k : Int) ∈ struck n log) then none else some (log.getD k default)
theorem rest_snoc (n : Int) (l : List Int) (o : Int) : rest n (l ++ [o]) = rest n l ++ (if (stk n l).1.getD o.natAbs default = decide (o < 0) then [] else [o]) := by
  unfold rest
  rw [List.length_append, List.length_singleton, List.range_succ, List.filterMap_append]
  congr 1
  · apply fm_congr
    intro k hk
    rw [List.mem_range] at hk
    have e : ((k : Int) ∈ struck n (l ++ [o])) ↔ ((k : Int) ∈ struck n l) := by
      obtain ⟨t, e, h⟩ := struck_app n l [o]
      rw [e, List.mem_append]
      constructor
      · rintro (z | z)
        · exact z
        · have := h _ z
          omega
      · exact .inl
    have e2 : (l ++ [o]).getD k default = l.getD k default := by
      simp [List.getD, List.getElem?_append_left hk]
    simp only [e, e2]
  · have e2 : (l ++ [o]).getD l.length default = o := by simp [List.getD]
    by_cases z : (stk n l).1.getD o.natAbs default = decide (o < 0)
    · rw [if_pos z]
      have : ((l.length : Int) ∈ struck n (l ++ [o])) := by
        unfold struck
        rw [stk_snoc]
        unfold stk1
        rw [if_pos z, stk_idx]
        exact List.mem_append_right _ (List.mem_singleton.mpr rfl)
      simp [this]
    · rw [if_neg z]
      have : ¬((l.length : Int) ∈ struck n (l ++ [o])) := by
        unfold struck
        rw [stk_snoc]
        unfold stk1
        rw [if_neg z]
        intro q
        have := struck_lt n l _ q
        omega
      simp [this]
theorem rest_ok (n : Int) (log : List Int) : (stk n (rest n log)).1 = (stk n log).1 ∧ struck n (rest n log) = [] := by
  suffices h : ∀ (r : List Int), (stk n (rest n r.reverse)).1 = (stk n r.reverse).1 ∧ struck n (rest n r.reverse) = [] by
    have := h log.reverse
    rw [List.reverse_reverse] at this
    exact this
  intro r
  induction r with
  | nil => exact ⟨rfl, rfl⟩
  | cons o r ih =>
    obtain ⟨h1, h2⟩ := ih
    rw [List.reverse_cons, rest_snoc, stk_snoc]
    by_cases z : (stk n r.reverse).1.getD o.natAbs default = decide (o < 0)
    · rw [if_pos z, List.append_nil]
      refine ⟨?_, h2⟩
      unfold stk1
      rw [if_pos z]
      exact h1
    · rw [if_neg z]
      have z2 : ¬(stk n (rest n r.reverse)).1.getD o.natAbs default = decide (o < 0) := by rw [h1]; exact z
      unfold struck at h2 ⊢
      rw [stk_snoc]
      unfold stk1
      rw [if_neg z, if_neg z2]
      exact ⟨by rw [h1], h2⟩
theorem rest_mem {n : Int} {log : List Int} {o : Int} (h : o ∈ rest n log) : o ∈ log := by
  unfold rest at h
  rw [List.mem_filterMap] at h
  obtain ⟨k, hk, e⟩ := h
  rw [List.mem_range] at hk
  split at e
  · cases e
  · cases e
    rw [show log.getD k default = log[k] by simp [List.getD, List.getElem?_eq_getElem hk]]
    exact List.getElem_mem hk
theorem rest_len (n : Int) (log : List Int) : (rest n log).length ≤ log.length := by
  unfold rest
  have := fm_len (fun k : Nat => if ((k : Int) ∈ struck n log) then none else some (log.getD k default)) (List.range log.length)
  rw [List.length_range] at this
  exact this
theorem fm_rep {β : Type} {b : β} : ∀ {k : Nat}, (List.range k).filterMap (fun _ => some b) = List.replicate k b
  | 0 => rfl
  | k + 1 => by rw [List.range_succ, List.filterMap_append, fm_rep, List.replicate_succ']; rfl
def sp__law_struck (a : AD) : Sp := fun vs H Q E => ∃ (n : Int) (p : Addr) (log : List Int), vs = [.int n, .ref p] ∧ H p = some (.lst (log.map V.int)) ∧ log.length ≤ 1000 ∧ 0 ≤ n ∧ n ≤ 60 ∧ (∀ o ∈ log, IsOp n o) ∧ ∀ r H', H r = none → Kp [] H H' → H' r = some (.lst ((struck n log).map V.int)) → Q (.ref r) H'
theorem sc__law_struck : FnScope ["_law_size_here", "_law_log", "_law_node", "_law_outs", "_law_struck_here", "_law_k"] ["_law_size_here", "_law_log"] (defScope s__law_struck) := ⟨rfl, rfl, rfl, by decide +kernel, rfl, by decide +kernel, by decide +kernel⟩
theorem ok__law_struck {P : Program} {w : World} {K : PySem.W.Frag} {mg : Str → Option Value} {base : Heap} {a : AD} (T : Txt P K mg a) : FnA P w K mg base 2 a.f__law_struck ["_law_size_here", "_law_log"] (sp__law_struck a) := by
  obtain ⟨fd, F, b⟩ := T.F__law_struck
  refine FnA.of F sc__law_struck b (fun vs H Q E h => by first | (obtain ⟨rfl, _⟩ := h; rfl) | (obtain ⟨_, rfl, _⟩ := h; rfl) | (obtain ⟨_, _, rfl, _⟩ := h; rfl) | (obtain ⟨_, _, _, rfl, _⟩ := h; rfl) | (obtain ⟨_, _, _, _, rfl, _⟩ := h; rfl) | (obtain ⟨_, _, _, _, _, rfl, _⟩ := h; rfl) | (obtain ⟨_, _, _, _, _, _, rfl, _⟩ := h; rfl)) (fun cdv A outer s H vs Q E hr tk pz h => ?_)
  have hu := hr.units
  have hrH := L2H.roomH_of hr
  obtain ⟨n, p, log, rfl, hp, hl, n0, n1, hok, k⟩ := h
  refine ⟨_, (pss_cons (ps_setLc (i := 3) (own := [("_law_node", 2)]) (g := (gName 2)) (tt := tYes) rfl sc__law_struck.nd rfl rfl (sw_true rfl rfl rfl (by decide +kernel)) (pi_range1 rfl T.b_range (pa_cons (pe_op o_add (pv 0) pe_int) pa_nil)) (blkOk_by (own := [("_law_node", 2)]) (N := ["_law_size_here", "_law_log", "_law_node", "_law_outs", "_law_struck_here", "_law_k"]) (sc := defScope s__law_struck) (by decide +kernel)) (fun _ _ _ _ _ => (pg_name (i := 2) sc__law_struck.nd rfl (Or.inl rfl))) (fun _ _ _ _ _ => pts_nil) (fun _ _ _ _ _ => pe_bl))
      (pss_cons (ps_set (i := 4) sc__law_struck.nd rfl (Or.inl rfl) (pe_lst pa_nil))
      (pss_cons (ps_for pz rfl (pi_range1 rfl T.b_range (pa_cons (pe_callB (b_len) rfl T.b_len (by decide +kernel) (pa_cons (pv 1) pa_nil)) pa_nil)) (pg_name (i := 5) sc__law_struck.nd rfl (Or.inl rfl))
      (pss_cons (ps_set (i := 2) sc__law_struck.nd rfl (Or.inl rfl) (pe_callB (b_abs) rfl T.b_abs (by decide +kernel) (pa_cons (pe_ix ix_seq (pv 1) (pv 5) (fun _ _ => rfl)) pa_nil)))
      (pss_one (ps_if (pt_cmpA (o_eq hu) (pe_ix ix_seq (pv 3) (pv 2) (fun _ _ => rfl)) (pe_cmpR op_lt (pe_ix ix_seq (pv 1) (pv 5) (fun _ _ => rfl)) pe_int (nomark _)) (nomark _)) (pss_one (ps_expr (pe_bm PySem.F.plainAttrs_list PySem.F.slot_list_append PySem.F.type_list_append mt_append (pv 4) (pa_cons (pv 5) pa_nil)))) (pss_one (ps_asg (pe_cmpR op_lt (pe_ix ix_seq (pv 1) (pv 5) (fun _ _ => rfl)) pe_int (nomark _)) (pg_sub (pv 3) (pv 2) set_list)))))))
      (pss_one (ps_ret (pv 4)))))), ?_⟩
  show (_ : Ends → L2.St → Hp → Prop) _ [some _, some _, none, none, none, none] _
  try dsimp only [L2H.cxH, cxOf]
  walk_at "w"
  refine w_lcR1 (f' := V.bl) (fun _ => some false) (n := n + 1) (by omega) (by omega) (by rw [sizeLine_eq]; omega) ?_ ?_
  · intro D i acc H' hD hi hk hA hlen
    walk_at "w"
    refine ⟨rfl, ?_⟩
    walk_at "w"
    exact w_keep hk hA hlen hD rfl
  · intro fl H1 hfl k1 hF0
    rw [fm_rep] at hF0
    walk_at "w"
    intro st hst
    walk_at "w"
    have hn0 : H st = none := k1.free hst
    have hne : fl ≠ st := ne_of_none hF0 hst
    refine w_rng1 (n := (log.length : Int)) (by omega) (by omega) (fun i σ' H' => (∃ x y, σ' = [some (.int n), some (.ref p), x, some (.ref fl), some (.ref st), y]) ∧ Kp [] H H' ∧ H' fl = some (.lst ((stk n (log.take i)).1.map V.bl)) ∧ H' st = some (.lst ((stk n (log.take i)).2.1.map V.int))) ⟨⟨_, _, rfl⟩, k1.own hn0, upd_get hne hF0, upd_same⟩ ?_ ?_
    · rintro i σ' H' hi ⟨⟨x, y, rfl⟩, hk, hF, hS⟩
      have hp' := hk.at0 hp
      obtain ⟨u, hu⟩ : ∃ u, log[i]? = some u := ⟨_, List.getElem?_eq_getElem (by omega)⟩
      have hui : log.getD (i : Int).toNat default = u := by simp [List.getD, hu]
      have hop := hok u (mem_of hu)
      have hul : u.natAbs < (stk n (log.take i)).1.length := by rw [stk_flags]; have := hop.2; omega
      have hsl : (stk n (log.take i)).2.1.length < sizeLine := by
        have h1 := struck_len n (log.take i)
        have h2 := lt_of hu
        unfold struck at h1
        rw [List.length_take] at h1
        rw [sizeLine_eq]; omega
      have e2 : stk n (log.take (i + 1)) = stk1 (stk n (log.take i)) u := by rw [take_snoc hu, stk_snoc]
      have ei : (stk n (log.take i)).2.2 = i := by rw [stk_idx, List.length_take]; have := lt_of hu; omega
      walk_at "w"
      rw [hui]
      walk_at "w"
      rw [Int.toNat_natCast]
      refine w_ite (fun c => ?_) (fun c => ?_)
      · walk_at "w"
        refine ⟨⟨_, _, rfl⟩, hk.own hn0, ?_, ?_⟩
        · rw [e2]
          unfold stk1
          rw [if_pos c]
          exact upd_get hne hF
        · rw [upd_same, e2]
          unfold stk1
          rw [if_pos c, ei]
      · walk_at "w"
        rw [hui]
        walk_at "w"
        refine ⟨⟨_, _, rfl⟩, hk.own hfl, ?_, ?_⟩
        · rw [upd_same, e2]
          unfold stk1
          rw [if_neg c]
          simp
        · rw [e2]
          unfold stk1
          rw [if_neg c]
          walk_at "hp"
    · rintro σ' H' ⟨⟨x, y, rfl⟩, hk, hF, hS⟩
      rw [show log.take (log.length : Int).toNat = log by simp] at hS
      walk_at "w"
      exact k st H' hn0 hk hS
def sp__law_most_kept (a : AD) : Sp := fun vs H Q E => ∃ (n : Int) (p : Addr) (log : List Int), vs = [.int n, .ref p] ∧ H p = some (.lst (log.map V.int)) ∧ log.length ≤ 1000 ∧ 0 ≤ n ∧ n ≤ 60 ∧ Q (.int (mostKept n log)) H
theorem sc__law_most_kept : FnScope ["_law_size_here", "_law_log", "_law_most", "_law_node", "_law_ends_in", "_law_ends_out", "_law_operation"] ["_law_size_here", "_law_log"] (defScope s__law_most_kept) := ⟨rfl, rfl, rfl, by decide +kernel, rfl, by decide +kernel, by decide +kernel⟩
theorem ok__law_most_kept {P : Program} {w : World} {K : PySem.W.Frag} {mg : Str → Option Value} {base : Heap} {a : AD} (T : Txt P K mg a) : FnA P w K mg base 2 a.f__law_most_kept ["_law_size_here", "_law_log"] (sp__law_most_kept a) := by
  obtain ⟨fd, F, b⟩ := T.F__law_most_kept
  refine FnA.of F sc__law_most_kept b (fun vs H Q E h => by first | (obtain ⟨rfl, _⟩ := h; rfl) | (obtain ⟨_, rfl, _⟩ := h; rfl) | (obtain ⟨_, _, rfl, _⟩ := h; rfl) | (obtain ⟨_, _, _, rfl, _⟩ := h; rfl) | (obtain ⟨_, _, _, _, rfl, _⟩ := h; rfl) | (obtain ⟨_, _, _, _, _, rfl, _⟩ := h; rfl) | (obtain ⟨_, _, _, _, _, _, rfl, _⟩ := h; rfl)) (fun cdv A outer s H vs Q E hr tk pz h => ?_)
  have hu := hr.units
  have hrH := L2H.roomH_of hr
  obtain ⟨n, p, log, rfl, hp, hl, n0, n1, k⟩ := h
  refine ⟨_, (pss_cons (ps_set (i := 2) sc__law_most_kept.nd rfl (Or.inl rfl) pe_int)
      (pss_cons (ps_for pz rfl (pi_range2 rfl T.b_range (pa_cons pe_int (pa_cons (pe_op o_add (pv 0) pe_int) pa_nil))) (pg_name (i := 3) sc__law_most_kept.nd rfl (Or.inl rfl))
      (pss_cons (ps_set (i := 4) sc__law_most_kept.nd rfl (Or.inl rfl) pe_int)
      (pss_cons (ps_set (i := 5) sc__law_most_kept.nd rfl (Or.inl rfl) pe_int)
      (pss_cons (ps_for pz rfl (pi_list (pv 1)) (pg_name (i := 6) sc__law_most_kept.nd rfl (Or.inl rfl))
      (pss_cut (ps_if (pt_cmpA (o_eq hu) (pv 6) (pe_un un_neg (pv 3)) (nomark _)) (pss_one (ps_set (i := 5) sc__law_most_kept.nd rfl (Or.inl rfl) (pe_callB (b_max2 rfl) rfl T.b_max (by decide +kernel) (pa_cons (pv 5) (pa_cons (pe_op o_add (pv 4) pe_int) pa_nil))))) pss_nil)
      (pss_one (ps_if (PW.pt (pw_and (pt_cmpA (o_eq hu) (pv 6) (pv 3) (nomark _)) (pw_and1 (pt_cmpA op_gt (pv 5) pe_int (nomark _))))) (pss_one (ps_set (i := 4) sc__law_most_kept.nd rfl (Or.inl rfl) (pe_callB (b_max2 rfl) rfl T.b_max (by decide +kernel) (pa_cons (pv 4) (pa_cons (pe_op o_add (pv 5) pe_int) pa_nil))))) pss_nil))))
      (pss_one (ps_set (i := 2) sc__law_most_kept.nd rfl (Or.inl rfl) (pe_op o_add (pv 2) (pe_callB (b_max2 rfl) rfl T.b_max (by decide +kernel) (pa_cons (pv 4) (pa_cons (pv 5) pa_nil))))))))))
      (pss_one (ps_ret (pv 2))))), ?_⟩
  show (_ : Ends → L2.St → Hp → Prop) _ [some _, some _, none, none, none, none, none] _
  try dsimp only [L2H.cxH, cxOf]
  walk_at "w"
  refine w_rng2 (lo := 1) (n := n + 1) (by omega) (by omega) (by omega) (by omega) (fun i σ' H' => (∃ x y z w', σ' = [some (.int n), some (.ref p), some (.int (sumTo (fun v => ndMax v log) i)), x, y, z, w']) ∧ H' = H) ⟨⟨_, _, _, _, rfl⟩, rfl⟩ ?_ ?_
  · rintro i σ' H' hi ⟨⟨x, y, z, w', rfl⟩, rfl⟩
    walk_at "w"
    refine w_forM (us := log) (f := V.int) (p := p) hp (fun j σ' H1 => (∃ x, σ' = [some (.int n), some (.ref p), some (.int (sumTo (fun v => ndMax v log) i)), some (.int (1 + (i : Int))), some (.int (nd (1 + (i : Int)) (log.take j)).1), some (.int (nd (1 + (i : Int)) (log.take j)).2), x]) ∧ H1 = H') ⟨⟨_, rfl⟩, rfl⟩ (fun j σ' H1 _ q => by rw [q.2]; exact hp) ?_ ?_
    · rintro j u σ' H1 hu ⟨⟨x, rfl⟩, rfl⟩
      have e2 : nd (1 + (i : Int)) (log.take (j + 1)) = nd1 (1 + (i : Int)) (nd (1 + (i : Int)) (log.take j)) u := by rw [take_snoc hu, nd_snoc]
      rw [e2]
      generalize nd (1 + (i : Int)) (log.take j) = s
      walk_at "w"
      refine s_cut (fun σ' H2 => σ' = [some (.int n), some (.ref p), some (.int (sumTo (fun v => ndMax v log) i)), some (.int (1 + (i : Int))), some (.int s.1), some (.int (nd1o (1 + (i : Int)) s u)), some (.int u)] ∧ H2 = H1) ?_ ?_
      · walk_at "w"
        refine w_ite (fun c => ?_) (fun c => ?_)
        · walk_at "w"
          unfold nd1o
          rw [if_pos c]
          exact ⟨rfl, rfl⟩
        · walk_at "w"
          unfold nd1o
          rw [if_neg c]
          exact ⟨rfl, rfl⟩
      · rintro σ' H2 ⟨rfl, rfl⟩
        unfold nd1
        walk_at "w"
        refine w_ite (fun c => ?_) (fun c => ?_)
        · walk_at "w"
          refine w_ite (fun c2 => ?_) (fun c2 => ?_)
          · walk_at "w"
            rw [if_pos ⟨c, c2⟩]
            exact ⟨⟨_, rfl⟩, rfl⟩
          · walk_at "w"
            rw [if_neg (fun z => c2 z.2)]
            exact ⟨⟨_, rfl⟩, rfl⟩
        · walk_at "w"
          rw [if_neg (fun z => c z.1)]
          exact ⟨⟨_, rfl⟩, rfl⟩
    · rintro σ' H1 ⟨⟨x, rfl⟩, rfl⟩
      rw [List.take_length]
      walk_at "w"
      exact ⟨⟨_, _, _, _, rfl⟩, rfl⟩
  · rintro σ' H' ⟨⟨x, y, z, w', rfl⟩, rfl⟩
    rw [show (n + 1 - 1).toNat = n.toNat by omega]
    walk_at "w"
    exact k
theorem chk_ok {a : AD} {n : Int} {log : List Int} {H : Hp} {E : XK} {k : Hp → Prop} (n0 : 0 ≤ n) (n1 : n ≤ 60) (hok : ∀ o ∈ log, IsOp n o) (h : ∀ H', Kp [] H H' → k H') : aChk a n log H E k :=
  ⟨fun z => absurd ⟨n0, n1⟩ z, fun _ _ i o hi ho => absurd (hok o (mem_of hi)) ho, fun _ _ _ => h⟩
/-- a question about a right log: its answer is True -/
def spRight (vs : List V) (H : Hp) (Q : VK) : Prop := ∃ (n : Int) (p : Addr) (log : List Int), vs = [.int n, .ref p] ∧ H p = some (.lst (log.map V.int)) ∧ log.length ≤ 100 ∧ 0 ≤ n ∧ n ≤ 60 ∧ (∀ o ∈ log, IsOp n o) ∧ ∀ H', Kp [] H H' → Q (.bl true) H'
def sp__law_strikes_right (a : AD) : Sp := fun vs H Q _ => spRight vs H Q
theorem sc__law_strikes_right : FnScope ["_law_size_here", "_law_log", "_law_due", "_law_given", "_law_told", "_law_k", "_law_rest", "_law_first"] ["_law_size_here", "_law_log"] (defScope s__law_strikes_right) := ⟨rfl, rfl, rfl, by decide +kernel, rfl, by decide +kernel, by decide +kernel⟩
theorem ok__law_strikes_right {P : Program} {w : World} {K : PySem.W.Frag} {mg : Str → Option Value} {base : Heap} {a : AD} (T : Txt P K mg a) (G__law_struck : FnA P w K mg base 2 a.f__law_struck ["_law_size_here", "_law_log"] (sp__law_struck a)) (G_strikes : FnA P w K mg base 4 a.f_strikes ["size", "log"] (sp_strikes a)) (G__law_integers : FnA P w K mg base 3 a.f__law_integers ["_law_told", "_law_due"] (sp__law_integers a)) (G__law_most_kept : FnA P w K mg base 2 a.f__law_most_kept ["_law_size_here", "_law_log"] (sp__law_most_kept a)) (G_first_illegal : FnA P w K mg base 5 a.f_first_illegal ["size", "log"] (sp_first_illegal a)) (G__law_is : FnA P w K mg base 2 a.f__law_is ["_law_told", "_law_due"] (sp__law_is a)) : FnA P w K mg base 6 a.f__law_strikes_right ["_law_size_here", "_law_log"] (sp__law_strikes_right a) := by
  obtain ⟨fd, F, b⟩ := T.F__law_strikes_right
  refine FnA.of F sc__law_strikes_right b (fun vs H Q E h => by first | (obtain ⟨rfl, _⟩ := h; rfl) | (obtain ⟨_, rfl, _⟩ := h; rfl) | (obtain ⟨_, _, rfl, _⟩ := h; rfl) | (obtain ⟨_, _, _, rfl, _⟩ := h; rfl) | (obtain ⟨_, _, _, _, rfl, _⟩ := h; rfl) | (obtain ⟨_, _, _, _, _, rfl, _⟩ := h; rfl) | (obtain ⟨_, _, _, _, _, _, rfl, _⟩ := h; rfl)) (fun cdv A outer s H vs Q E hr tk pz h => ?_)
  have hu := hr.units
  have hrH := L2H.roomH_of hr
  obtain ⟨n, p, log, rfl, hp, hl, n0, n1, hok, k⟩ := h
  refine ⟨_, (pss_cons (ps_set (i := 2) sc__law_strikes_right.nd rfl (Or.inr rfl) (pe_callA G__law_struck (Room.mono hr (by decide)) T.n__law_struck tk (pa_cons (pv 0) (pa_cons (pv 1) pa_nil))))
      (pss_cons (ps_set (i := 3) sc__law_strikes_right.nd rfl (Or.inl rfl) (pe_callTy b_list rfl T.b_list (by decide +kernel) (pa_cons (pv 1) pa_nil)))
      (pss_cons (ps_set (i := 4) sc__law_strikes_right.nd rfl (Or.inl rfl) (pe_callA G_strikes (Room.mono hr (by decide)) T.n_strikes tk (pa_cons (pv 0) (pa_cons (pv 3) pa_nil))))
      (pss_cons (ps_if (PW.pt (pw_or (pt_not (pt_tru (pe_callA G__law_integers (Room.mono hr (by decide)) T.n__law_integers tk (pa_cons (pv 4) (pa_cons (pv 2) pa_nil))))) (pw_or1 (pt_not (pt_tru (pe_callA G__law_integers (Room.mono hr (by decide)) T.n__law_integers tk (pa_cons (pv 3) (pa_cons (pv 1) pa_nil)))))))) (pss_one (ps_ret pe_bl)) pss_nil)
      (pss_cons (ps_if (pt_cmpA (o_ne hu) (pe_op op_sub (pe_callB (b_len) rfl T.b_len (by decide +kernel) (pa_cons (pv 1) pa_nil)) (pe_callB (b_len) rfl T.b_len (by decide +kernel) (pa_cons (pv 4) pa_nil))) (pe_callA G__law_most_kept (Room.mono hr (by decide)) T.n__law_most_kept tk (pa_cons (pv 0) (pa_cons (pv 1) pa_nil))) (nomark _)) (pss_one (ps_ret pe_bl)) pss_nil)
      (pss_cons (ps_expr (pe_bm PySem.F.plainAttrs_list PySem.F.slot_list_append PySem.F.type_list_append mt_append (pv 4) (pa_cons pe_int pa_nil)))
      (pss_cons (ps_expr (pe_bm0 PySem.F.plainAttrs_list PySem.F.slot_list_reverse PySem.F.type_list_reverse mt_reverse (pv 4)))
      (pss_cons (ps_setLc (i := 6) (own := [("_law_k", 5)]) (g := (gName 5)) rfl sc__law_strikes_right.nd rfl rfl (sw_true rfl rfl rfl (by decide +kernel)) (pi_range1 rfl T.b_range (pa_cons (pe_callB (b_len) rfl T.b_len (by decide +kernel) (pa_cons (pv 1) pa_nil)) pa_nil)) (blkOk_by (own := [("_law_k", 5)]) (N := ["_law_size_here", "_law_log", "_law_due", "_law_given", "_law_told", "_law_k", "_law_rest", "_law_first"]) (sc := defScope s__law_strikes_right) (by decide +kernel)) (fun _ _ _ _ _ => (pg_name (i := 5) sc__law_strikes_right.nd rfl (Or.inl rfl))) (fun _ _ _ _ _ => (pts_one (pt_cmpA (show OpR _ _ (rIn K true) from op_notIn_seq) (pv 5) (pv 2) (by rfl)))) (fun _ _ _ _ _ => (pe_ix (show IxR _ (rIx K) from ix_seq) (pv 1) (pv 5) (fun _ _ => rfl))))
      (pss_cons (ps_if (PW.pt (pw_or (pt_cmpA o_notN (pe_callA G_first_illegal (Room.mono hr (by decide)) T.n_first_illegal tk (pa_cons (pv 0) (pa_cons (pe_callTy b_list rfl T.b_list (by decide +kernel) (pa_cons (pv 6) pa_nil)) pa_nil))) pe_non (nomark _)) (pw_or1 (pt_not (pt_tru (pe_callA G__law_integers (Room.mono hr (by decide)) T.n__law_integers tk (pa_cons (pe_callA G_strikes (Room.mono hr (by decide)) T.n_strikes tk (pa_cons (pv 0) (pa_cons (pe_callTy b_list rfl T.b_list (by decide +kernel) (pa_cons (pv 6) pa_nil)) pa_nil))) (pa_cons (pe_lst pa_nil) pa_nil)))))))) (pss_one (ps_ret pe_bl)) pss_nil)
      (pss_cons (ps_set (i := 7) sc__law_strikes_right.nd rfl (Or.inl rfl) (pe_callA G_first_illegal (Room.mono hr (by decide)) T.n_first_illegal tk (pa_cons (pv 0) (pa_cons (pv 3) pa_nil))))
      (pss_cons (ps_if (pt_not (pt_tru (pe_callA G__law_integers (Room.mono hr (by decide)) T.n__law_integers tk (pa_cons (pv 3) (pa_cons (pv 1) pa_nil))))) (pss_one (ps_ret pe_bl)) pss_nil)
      (pss_cons (ps_if (pt_cmpA (o_eq hu) (pv 2) (pe_lst pa_nil) (nomark _)) (pss_one (ps_ret (pe_cmpR o_isN (pv 7) pe_non (nomark _)))) pss_nil)
      (pss_one (ps_ret (pe_and (pe_callA G__law_is (Room.mono hr (by decide)) T.n__law_is tk (pa_cons (pv 7) (pa_cons (pe_ix ix_seq (pv 2) pe_int (fun _ _ => rfl)) pa_nil))) (pe_one (pe_cmpR o_isN (pe_callA G_first_illegal (Room.mono hr (by decide)) T.n_first_illegal tk (pa_cons (pv 0) (pa_cons (pe_slice sl_any (pv 1) po_none (po_some (pe_ix ix_seq (pv 2) pe_int (fun _ _ => rfl)))) pa_nil))) pe_non (nomark _)))))))))))))))))), ?_⟩
  show (_ : Ends → L2.St → Hp → Prop) _ [some _, some _, none, none, none, none, none, none] _
  try dsimp only [L2H.cxH, cxOf]
  have hm := mostKept_eq n0 hok
  have hsl := struck_len n log
  have hrl := rest_len n log
  walk_at "w"
  refine ⟨n, p, log, rfl, hp, by omega, n0, n1, hok, fun due H1 hdue k1 hd1 => ?_⟩
  walk_at "w"
  intro g hg
  walk_at "w"
  refine ⟨n, g, log, rfl, upd_same, by omega, chk_ok n0 n1 hok fun H2 k2 r H3 hr k3 hr3 => ?_⟩
  have hg3 : H3 g = some (.lst (log.map V.int)) := k3.at0 upd_same
  have hd3 : H3 due = some (.lst ((struck n log).map V.int)) := by walk_at "hp"
  have hp3 : H3 p = some (.lst (log.map V.int)) := by walk_at "hp"
  have k03 : Kp [] H H3 := (k1.new hg).trans k3
  have hrdue : r ≠ due := Ne.symm (ne_of_none (upd_new hg hd1) hr)
  have hrp : r ≠ p := Ne.symm (ne_of_none (upd_new hg (k1.at0 hp)) hr)
  have hrg : r ≠ g := Ne.symm (ne_of_none upd_same hr)
  have hr0 : H r = none := (k1.new hg).free hr
  walk_at "w"
  refine ⟨_, _, _, _, rfl, hr3, hd3, by omega, by omega, ?_⟩
  walk_at "w"
  refine ⟨_, _, _, _, rfl, hg3, hp3, by omega, by omega, ?_⟩
  walk_at "w"
  refine ⟨n, p, log, rfl, hp3, by omega, n0, n1, ?_⟩
  walk_at "w"
  refine w_lcR1 (f' := V.int) (fun k : Nat => if ((k : Int) ∈ struck n log) then none else some (log.getD k default)) (n := (log.length : Int)) (by omega) (by omega) (by rw [sizeLine_eq]; omega) ?_ ?_
  · intro D i acc H' hD hi hk hA hlen
    walk_at "w"
    refine ⟨rfl, ?_⟩
    walk_at "w"
    refine w_iteN (fun c => ?_) (fun c => ?_)
    · walk_at "w"
      exact w_keep hk hA hlen hD (by rw [if_neg c]; rfl)
    · walk_at "w"
      exact w_drop hk hA (by rw [if_pos c])
  · intro rs H4 hrs k4 hA
    have hA4 : H4 rs = some (.lst ((rest n log).map V.int)) := by
      rw [hA]
      simp only [Int.toNat_natCast]
      rfl
    have hrok : ∀ o ∈ rest n log, IsOp n o := fun o ho => hok o (rest_mem ho)
    have hg4 : H4 g = some (.lst (log.map V.int)) := by walk_at "hp"
    have hd4 : H4 due = some (.lst ((struck n log).map V.int)) := by walk_at "hp"
    have hp4 : H4 p = some (.lst (log.map V.int)) := by walk_at "hp"
    have k04 : Kp [] H H4 := ((k03.own hr0).own hr0).trans k4
    walk_at "w"
    intro x hx
    walk_at "w"
    refine ⟨n, x, rest n log, rfl, upd_same, by omega, chk_ok n0 n1 hrok fun H5 _ H6 k6 => ?_⟩
    rw [(rest_ok n log).2]
    have hA6 : H6 rs = some (.lst ((rest n log).map V.int)) := by walk_at "hp"
    unfold firstV
    walk_at "w"
    intro y hy
    walk_at "w"
    refine ⟨n, y, rest n log, rfl, upd_same, by omega, chk_ok n0 n1 hrok fun H7 _ z H8 hz k8 hz8 => ?_⟩
    rw [(rest_ok n log).2] at hz8
    walk_at "w"
    intro e he
    walk_at "w"
    refine ⟨_, _, [], [], rfl, upd_new he hz8, upd_same, by decide, by decide, ?_⟩
    have k09 : Kp [] H (upd H8 e (.lst [])) := ((((k04.new hx).trans k6).new hy).trans k8).new he
    have hg9 : upd H8 e (.lst []) g = some (.lst (log.map V.int)) := by walk_at "hp"
    have hd9 : upd H8 e (.lst []) due = some (.lst ((struck n log).map V.int)) := by walk_at "hp"
    have hp9 : upd H8 e (.lst []) p = some (.lst (log.map V.int)) := by walk_at "hp"
    generalize upd H8 e (.lst []) = H9 at k09 hg9 hd9 hp9
    walk_at "w"
    refine ⟨n, g, log, rfl, hg9, by omega, chk_ok n0 n1 hok fun H10 _ H11 k11 => ?_⟩
    have hg11 : H11 g = some (.lst (log.map V.int)) := by walk_at "hp"
    have hd11 : H11 due = some (.lst ((struck n log).map V.int)) := by walk_at "hp"
    have hp11 : H11 p = some (.lst (log.map V.int)) := by walk_at "hp"
    walk_at "w"
    refine ⟨_, _, _, _, rfl, hg11, hp11, by omega, by omega, ?_⟩
    walk_at "w"
    intro e2 he2
    walk_at "w"
    refine w_ite (fun c => ?_) (fun c => ?_)
    · walk_at "w"
      rw [c]
      unfold firstV
      walk_at "w"
      exact k _ ((k09.trans k11).new he2)
    · walk_at "w"
      obtain ⟨i, t, es⟩ : ∃ i t, struck n log = i :: t := by
        cases q : struck n log with
        | nil => exact absurd q c
        | cons i t => exact ⟨i, t, rfl⟩
      have hi := struck_lt n log i (by rw [es]; exact List.mem_cons_self)
      rw [es] at hd11 ⊢
      unfold firstV
      walk_at "w"
      refine ⟨_, _, rfl, ?_⟩
      walk_at "w"
      intro e3 he3
      walk_at "w"
      have ecut : cut log none (some i) = log.take i.toNat := by
        unfold cut HT.sIx
        dsimp only
        rw [if_neg (by omega), List.drop_zero, Nat.sub_zero, Nat.min_eq_left (by omega)]
      refine ⟨n, e3, log.take i.toNat, rfl, by rw [← ecut]; exact upd_same, by rw [List.length_take]; omega, chk_ok n0 n1 (fun o ho => hok o (List.mem_of_mem_take ho)) fun H12 _ H13 k13 => ?_⟩
      rw [struck_first es]
      unfold firstV
      walk_at "w"
      exact k _ ((((k09.trans k11).new he2).new he3).trans k13)
def turn1 (n o : Int) : Int := if o < 0 then -(n + 1 + o) else n + 1 - o
def sp__law_turned (a : AD) : Sp := fun vs H Q _ => ∃ (n o : Int), vs = [.int n, .int o] ∧ Q (.int (turn1 n o)) H
theorem sc__law_turned : FnScope ["_law_size_here", "_law_operation"] ["_law_size_here", "_law_operation"] (defScope s__law_turned) := ⟨rfl, rfl, rfl, by decide +kernel, rfl, by decide +kernel, by decide +kernel⟩
theorem ok__law_turned {P : Program} {w : World} {K : PySem.W.Frag} {mg : Str → Option Value} {base : Heap} {a : AD} (T : Txt P K mg a) : FnA P w K mg base 2 a.f__law_turned ["_law_size_here", "_law_operation"] (sp__law_turned a) := by
  obtain ⟨fd, F, b⟩ := T.F__law_turned
  refine FnA.of F sc__law_turned b (fun vs H Q E h => by first | (obtain ⟨rfl, _⟩ := h; rfl) | (obtain ⟨_, rfl, _⟩ := h; rfl) | (obtain ⟨_, _, rfl, _⟩ := h; rfl) | (obtain ⟨_, _, _, rfl, _⟩ := h; rfl) | (obtain ⟨_, _, _, _, rfl, _⟩ := h; rfl) | (obtain ⟨_, _, _, _, _, rfl, _⟩ := h; rfl) | (obtain ⟨_, _, _, _, _, _, rfl, _⟩ := h; rfl)) (fun cdv A outer s H vs Q E hr tk pz h => ?_)
  have hu := hr.units
  have hrH := L2H.roomH_of hr
  obtain ⟨n, o, rfl, k⟩ := h
  refine ⟨_, (pss_cons (ps_if (pt_cmpA op_lt (pv 1) pe_int (nomark _)) (pss_one (ps_ret (pe_un un_neg (pe_op o_add (pe_op o_add (pv 0) pe_int) (pv 1))))) pss_nil)
      (pss_one (ps_ret (pe_op op_sub (pe_op o_add (pv 0) pe_int) (pv 1))))), ?_⟩
  show (_ : Ends → L2.St → Hp → Prop) _ [some _, some _] _
  try dsimp only [L2H.cxH, cxOf]
  walk_at "w"
  refine w_ite (fun c => ?_) (fun c => ?_)
  · walk_at "w"
    rw [turn1, if_pos c] at k
    exact k
  · walk_at "w"
    rw [turn1, if_neg c] at k
    exact k
theorem turn_mir {n : Int} {log : List Int} (h : ∀ o ∈ log, IsOp n o) : log.map (turn1 n) = log.map (mir1 n) := by
  apply List.map_congr_left
  intro o ho
  have := (h o ho).1
  unfold turn1 mir1
  split <;> split <;> omega
theorem mir_ok {n : Int} {log : List Int} (h : ∀ o ∈ log, IsOp n o) : ∀ o ∈ log.map (mir1 n), IsOp n o := by
  intro o ho
  obtain ⟨u, hu, rfl⟩ := List.mem_map.mp ho
  have h1 := (h u hu).1
  have h2 := (h u hu).2
  unfold mir1 IsOp
  split <;> constructor <;> omega
theorem mir_mir {n : Int} {log : List Int} (h : ∀ o ∈ log, IsOp n o) : (log.map (mir1 n)).map (mir1 n) = log := by
  rw [List.map_map]
  conv => rhs; rw [← List.map_id log]
  apply List.map_congr_left
  intro u hu
  have h1 := (h u hu).1
  have h2 := (h u hu).2
  show mir1 n (mir1 n u) = u
  unfold mir1
  split <;> split <;> omega
def sp__law_mirror_right (a : AD) : Sp := fun vs H Q _ => spRight vs H Q
theorem sc__law_mirror_right : FnScope ["_law_size_here", "_law_log", "_law_operation", "_law_due", "_law_given", "_law_told"] ["_law_size_here", "_law_log"] (defScope s__law_mirror_right) := ⟨rfl, rfl, rfl, by decide +kernel, rfl, by decide +kernel, by decide +kernel⟩
theorem ok__law_mirror_right {P : Program} {w : World} {K : PySem.W.Frag} {mg : Str → Option Value} {base : Heap} {a : AD} (T : Txt P K mg a) (G__law_turned : FnA P w K mg base 2 a.f__law_turned ["_law_size_here", "_law_operation"] (sp__law_turned a)) (G_mirror : FnA P w K mg base 4 a.f_mirror ["size", "log"] (sp_mirror a)) (G__law_integers : FnA P w K mg base 3 a.f__law_integers ["_law_told", "_law_due"] (sp__law_integers a)) : FnA P w K mg base 5 a.f__law_mirror_right ["_law_size_here", "_law_log"] (sp__law_mirror_right a) := by
  obtain ⟨fd, F, b⟩ := T.F__law_mirror_right
  refine FnA.of F sc__law_mirror_right b (fun vs H Q E h => by first | (obtain ⟨rfl, _⟩ := h; rfl) | (obtain ⟨_, rfl, _⟩ := h; rfl) | (obtain ⟨_, _, rfl, _⟩ := h; rfl) | (obtain ⟨_, _, _, rfl, _⟩ := h; rfl) | (obtain ⟨_, _, _, _, rfl, _⟩ := h; rfl) | (obtain ⟨_, _, _, _, _, rfl, _⟩ := h; rfl) | (obtain ⟨_, _, _, _, _, _, rfl, _⟩ := h; rfl)) (fun cdv A outer s H vs Q E hr tk pz h => ?_)
  have hu := hr.units
  have hrH := L2H.roomH_of hr
  obtain ⟨n, p, log, rfl, hp, hl, n0, n1, hok, k⟩ := h
  refine ⟨_, (pss_cons (ps_setLc (i := 3) (own := [("_law_operation", 2)]) (g := (gName 2)) (tt := tYes) rfl sc__law_mirror_right.nd rfl rfl (sw_true rfl rfl rfl (by decide +kernel)) (pi_list (pv 1)) (blkOk_by (own := [("_law_operation", 2)]) (N := ["_law_size_here", "_law_log", "_law_operation", "_law_due", "_law_given", "_law_told"]) (sc := defScope s__law_mirror_right) (by decide +kernel)) (fun _ _ _ _ _ => (pg_name (i := 2) sc__law_mirror_right.nd rfl (Or.inl rfl))) (fun _ _ _ _ _ => pts_nil) (fun _ _ _ _ _ => (pe_callA G__law_turned (Room.mono hr (by decide)) T.n__law_turned takes0 (pa_cons (pv 0) (pa_cons (pv 2) pa_nil)))))
      (pss_cons (ps_set (i := 4) sc__law_mirror_right.nd rfl (Or.inl rfl) (pe_callTy b_list rfl T.b_list (by decide +kernel) (pa_cons (pv 1) pa_nil)))
      (pss_cons (ps_set (i := 5) sc__law_mirror_right.nd rfl (Or.inl rfl) (pe_callA G_mirror (Room.mono hr (by decide)) T.n_mirror tk (pa_cons (pv 0) (pa_cons (pv 4) pa_nil))))
      (pss_cons (ps_if (pt_not (pt_tru (pe_callA G__law_integers (Room.mono hr (by decide)) T.n__law_integers tk (pa_cons (pv 5) (pa_cons (pv 3) pa_nil))))) (pss_one (ps_ret pe_bl)) pss_nil)
      (pss_cons (ps_expr (pe_bm PySem.F.plainAttrs_list PySem.F.slot_list_append PySem.F.type_list_append mt_append (pv 5) (pa_cons pe_int pa_nil)))
      (pss_one (ps_ret (pe_and (pe_callA G__law_integers (Room.mono hr (by decide)) T.n__law_integers tk (pa_cons (pv 4) (pa_cons (pv 1) pa_nil))) (pe_one (pe_callA G__law_integers (Room.mono hr (by decide)) T.n__law_integers tk (pa_cons (pe_callA G_mirror (Room.mono hr (by decide)) T.n_mirror tk (pa_cons (pv 0) (pa_cons (pe_callTy b_list rfl T.b_list (by decide +kernel) (pa_cons (pv 3) pa_nil)) pa_nil))) (pa_cons (pv 1) pa_nil)))))))))))), ?_⟩
  show (_ : Ends → L2.St → Hp → Prop) _ [some _, some _, none, none, none, none] _
  try dsimp only [L2H.cxH, cxOf]
  walk_at "w"
  refine w_lcM (us := log) (f := V.int) (f' := V.int) (fun o => some (turn1 n o)) hp (by rw [sizeLine_eq]; omega) ?_ ?_
  · intro D i u acc H' hD hu hk hA hlen
    walk_at "w"
    refine ⟨rfl, ?_⟩
    walk_at "w"
    refine ⟨_, _, rfl, ?_⟩
    exact w_keep hk hA hlen hD rfl
  · intro due H1 hdue k1 hA
    rw [fm_some, turn_mir hok] at hA
    walk_at "w"
    intro g hg
    walk_at "w"
    refine ⟨n, g, log, rfl, upd_same, by omega, chk_ok n0 n1 hok fun H2 k2 r H3 hr k3 hr3 => ?_⟩
    have hr0 : H r = none := (k1.new hg).free hr
    have hg3 : H3 g = some (.lst (log.map V.int)) := k3.at0 upd_same
    have hd3 : H3 due = some (.lst ((log.map (mir1 n)).map V.int)) := by walk_at "hp"
    have hp3 : H3 p = some (.lst (log.map V.int)) := by walk_at "hp"
    have hrdue : r ≠ due := Ne.symm (ne_of_none (upd_new hg hA) hr)
    have hrp : r ≠ p := Ne.symm (ne_of_none (upd_new hg (k1.at0 hp)) hr)
    have hrg : r ≠ g := Ne.symm (ne_of_none upd_same hr)
    walk_at "w"
    refine ⟨_, _, _, _, rfl, hr3, hd3, by simp; omega, by simp; omega, ?_⟩
    walk_at "w"
    refine ⟨_, _, _, _, rfl, by walk_at "hp", by walk_at "hp", by omega, by omega, ?_⟩
    walk_at "w"
    intro e he
    walk_at "w"
    refine ⟨n, e, log.map (mir1 n), rfl, upd_same, by simp; omega, chk_ok n0 n1 (mir_ok hok) fun H4 k4 s H5 hs k5 hs5 => ?_⟩
    rw [mir_mir hok] at hs5
    walk_at "w"
    refine ⟨_, _, _, _, rfl, hs5, by walk_at "hp", by omega, by omega, ?_⟩
    rw [show decide (log = log) = true by simp]
    exact k _ ((((k1.new hg).trans k3).own hr0).new he |>.trans k5)
/-! ### the ranges of nodes that act -/
def rg1 (fs : List Bool) (s : Int × List (Int × Int)) (i : Nat) : Int × List (Int × Int) :=
  let low := if fs.getD (i + 1) default = true ∧ s.1 = 0 then (1 + (i : Int)) else s.1
  if fs.getD (i + 1) default = false ∧ low > 0 then (0, s.2 ++ [(low, 1 + (i : Int) - 1)]) else (low, s.2)
def rg (fs : List Bool) (k : Nat) : Int × List (Int × Int) := (List.range k).foldl (rg1 fs) (0, [])
theorem rg_succ (fs : List Bool) (k : Nat) : rg fs (k + 1) = rg1 fs (rg fs k) k := by
  unfold rg
  rw [List.range_succ, List.foldl_append]; rfl
theorem blk_ok (fs : List Bool) : ∀ k, 1 ≤ (blk fs k).1 ∧ (blk fs k).1 ≤ max 1 (k : Int) ∧ ∀ p ∈ (blk fs k).2, 1 ≤ p.1 ∧ p.1 ≤ p.2 ∧ p.2 ≤ (k : Int)
  | 0 => ⟨by show (1 : Int) ≤ 1; decide, by show (1 : Int) ≤ max 1 0; decide, fun p hp => by cases hp⟩
  | k + 1 => by
    obtain ⟨h1, h2, h3⟩ := blk_ok fs k
    rw [blk_succ]
    unfold blk1
    dsimp only
    have hz : 1 ≤ (if fs.getD (k + 1) default = true ∧ fs.getD k default = false then 1 + (k : Int) else (blk fs k).1) ∧ (if fs.getD (k + 1) default = true ∧ fs.getD k default = false then 1 + (k : Int) else (blk fs k).1) ≤ 1 + (k : Int) := by
      split <;> omega
    generalize (if fs.getD (k + 1) default = true ∧ fs.getD k default = false then 1 + (k : Int) else (blk fs k).1) = z at hz
    refine ⟨hz.1, by omega, fun p hp => ?_⟩
    have hold : ∀ p ∈ (blk fs k).2, 1 ≤ p.1 ∧ p.1 ≤ p.2 ∧ p.2 ≤ ((k + 1 : Nat) : Int) := fun p hp => by
      have := h3 p hp
      omega
    split at hp
    · rcases List.mem_append.mp hp with q | q
      · exact hold p q
      · rw [List.mem_singleton] at q
        subst q
        dsimp only
        omega
    · exact hold p hp
theorem rg_blk (fs : List Bool) : ∀ k, (rg fs (k + 1)).2 = (blk fs k).2 ∧ (fs.getD (k + 1) default = true → (rg fs (k + 1)).1 = (blk fs (k + 1)).1) ∧ (fs.getD (k + 1) default = false → (rg fs (k + 1)).1 = 0)
  | 0 => by
    rw [rg_succ, blk_succ]
    unfold rg1 blk1
    cases h : fs.getD (0 + 1) default with
    | true =>
      refine ⟨?_, ?_, fun z => by cases z⟩
      · simp [rg, blk]
      · intro _
        simp [rg, blk]
    | false => simp [rg, blk]
  | k + 1 => by
    obtain ⟨h1, h2, h3⟩ := rg_blk fs k
    have hpos := (blk_ok fs (k + 1)).1
    have hb2 := blk_succ fs k
    rw [rg_succ, blk_succ fs (k + 1)]
    have e1 : (blk fs (k + 1)).2 = if fs.getD (k + 1) default = true ∧ fs.getD (k + 2) default = false then (blk fs k).2 ++ [((blk fs (k + 1)).1, 1 + (k : Int))] else (blk fs k).2 := by
      rw [hb2]; rfl
    rw [e1]
    unfold rg1 blk1
    rw [h1]
    cases hv : fs.getD (k + 1) default with
    | true =>
      rw [h2 hv]
      cases hw : fs.getD (k + 1 + 1) default with
      | true => simp; omega
      | false =>
        simp
        have : (blk fs (k + 1)).1 > 0 := by omega
        rw [if_pos this]
        simp
        omega
    | false =>
      rw [h3 hv]
      cases hw : fs.getD (k + 1 + 1) default with
      | true => simp
      | false => simp
def rangesF (n : Int) (log : List Int) : List (Int × Int) := (rg (actF n log) (n + 1).toNat).2
theorem ranges_blocks {n : Int} (n0 : 0 ≤ n) (log : List Int) : rangesF n log = blocksF n log := by
  unfold rangesF blocksF
  rw [show (n + 1).toNat = n.toNat + 1 by omega]
  exact (rg_blk _ _).1
theorem blocks_ok {n : Int} (n0 : 0 ≤ n) (log : List Int) : ∀ p ∈ blocksF n log, 1 ≤ p.1 ∧ p.1 ≤ p.2 ∧ p.2 ≤ n := by
  intro p hp
  have := (blk_ok (actF n log) n.toNat).2.2 p hp
  omega
theorem rg_len (fs : List Bool) : ∀ k, (rg fs k).2.length ≤ k
  | 0 => Nat.le_refl _
  | k + 1 => by
    have := rg_len fs k
    rw [rg_succ]
    unfold rg1
    dsimp only
    generalize (if fs.getD (k + 1) default = true ∧ (rg fs k).1 = 0 then 1 + (k : Int) else (rg fs k).1) = z
    split
    · rw [List.length_append]; simp; omega
    · show (rg fs k).2.length ≤ _
      omega
def sp__law_ranges (a : AD) : Sp := fun vs H Q E => ∃ (n : Int) (p : Addr) (log : List Int), vs = [.int n, .ref p] ∧ H p = some (.lst (log.map V.int)) ∧ log.length ≤ 100 ∧ 0 ≤ n ∧ n ≤ 60 ∧ (∀ o ∈ log, IsOp n o) ∧ ∀ r H' xs, H r = none → Kp [] H H' → H' r = some (.lst xs) → Prs H' xs (blocksF n log) → Q (.ref r) H'
theorem sc__law_ranges : FnScope ["_law_size_here", "_law_log", "_law_node", "_law_acting", "_law_operation", "_law_found", "_law_low"] ["_law_size_here", "_law_log"] (defScope s__law_ranges) := ⟨rfl, rfl, rfl, by decide +kernel, rfl, by decide +kernel, by decide +kernel⟩
theorem ok__law_ranges {P : Program} {w : World} {K : PySem.W.Frag} {mg : Str → Option Value} {base : Heap} {a : AD} (T : Txt P K mg a) : FnA P w K mg base 2 a.f__law_ranges ["_law_size_here", "_law_log"] (sp__law_ranges a) := by
  obtain ⟨fd, F, b⟩ := T.F__law_ranges
  refine FnA.of F sc__law_ranges b (fun vs H Q E h => by first | (obtain ⟨rfl, _⟩ := h; rfl) | (obtain ⟨_, rfl, _⟩ := h; rfl) | (obtain ⟨_, _, rfl, _⟩ := h; rfl) | (obtain ⟨_, _, _, rfl, _⟩ := h; rfl) | (obtain ⟨_, _, _, _, rfl, _⟩ := h; rfl) | (obtain ⟨_, _, _, _, _, rfl, _⟩ := h; rfl) | (obtain ⟨_, _, _, _, _, _, rfl, _⟩ := h; rfl)) (fun cdv A outer s H vs Q E hr tk pz h => ?_)
  have hu := hr.units
  have hrH := L2H.roomH_of hr
  obtain ⟨n, p, log, rfl, hp, hl, n0, n1, hok, k⟩ := h
  refine ⟨_, (pss_cons (ps_setLc (i := 3) (own := [("_law_node", 2)]) (g := (gName 2)) (tt := tYes) rfl sc__law_ranges.nd rfl rfl (sw_true rfl rfl rfl (by decide +kernel)) (pi_range1 rfl T.b_range (pa_cons (pe_op o_add (pv 0) pe_int) pa_nil)) (blkOk_by (own := [("_law_node", 2)]) (N := ["_law_size_here", "_law_log", "_law_node", "_law_acting", "_law_operation", "_law_found", "_law_low"]) (sc := defScope s__law_ranges) (by decide +kernel)) (fun _ _ _ _ _ => (pg_name (i := 2) sc__law_ranges.nd rfl (Or.inl rfl))) (fun _ _ _ _ _ => pts_nil) (fun _ _ _ _ _ => pe_bl))
      (pss_cons (ps_for pz rfl (pi_list (pv 1)) (pg_name (i := 4) sc__law_ranges.nd rfl (Or.inl rfl))
      (pss_one (ps_asg pe_bl (pg_sub (pv 3) (pe_callB (b_abs) rfl T.b_abs (by decide +kernel) (pa_cons (pv 4) pa_nil)) set_list))))
      (pss_cons (ps_set (i := 5) sc__law_ranges.nd rfl (Or.inl rfl) (pe_lst pa_nil))
      (pss_cons (ps_set (i := 6) sc__law_ranges.nd rfl (Or.inl rfl) pe_int)
      (pss_cons (ps_for pz rfl (pi_range2 rfl T.b_range (pa_cons pe_int (pa_cons (pe_op o_add (pv 0) pe_int) pa_nil))) (pg_name (i := 2) sc__law_ranges.nd rfl (Or.inl rfl))
      (pss_cut (ps_if (PW.pt (pw_and (pt_tru (pe_ix ix_seq (pv 3) (pv 2) (fun _ _ => rfl))) (pw_and1 (pt_cmpA (o_eq hu) (pv 6) pe_int (nomark _))))) (pss_one (ps_set (i := 6) sc__law_ranges.nd rfl (Or.inl rfl) (pv 2))) pss_nil)
      (pss_one (ps_if (PW.pt (pw_and (pt_not (pt_tru (pe_ix ix_seq (pv 3) (pv 2) (fun _ _ => rfl)))) (pw_and1 (pt_cmpA op_gt (pv 6) pe_int (nomark _))))) (pss_cons (ps_expr (pe_bm PySem.F.plainAttrs_list PySem.F.slot_list_append PySem.F.type_list_append mt_append (pv 5) (pa_cons (pe_tup (pa_cons (pv 6) (pa_cons (pe_op op_sub (pv 2) pe_int) pa_nil))) pa_nil)))
      (pss_one (ps_set (i := 6) sc__law_ranges.nd rfl (Or.inl rfl) pe_int))) pss_nil))))
      (pss_one (ps_ret (pv 5)))))))), ?_⟩
  show (_ : Ends → L2.St → Hp → Prop) _ [some _, some _, none, none, none, none, none] _
  try dsimp only [L2H.cxH, cxOf]
  rw [← ranges_blocks n0] at k
  walk_at "w"
  refine w_lcR1 (f' := V.bl) (fun _ => some false) (n := n + 2) (by omega) (by omega) (by rw [sizeLine_eq]; omega) ?_ ?_
  · intro D i acc H' hD hi hk hA hlen
    walk_at "w"
    refine ⟨rfl, ?_⟩
    walk_at "w"
    exact w_keep hk hA hlen hD rfl
  · intro fl H1 hfl k1 hF0
    rw [fm_rep] at hF0
    walk_at "w"
    refine w_forM (us := log) (f := V.int) (p := p) (by walk_at "hp") (fun i σ' H' => (∃ x y, σ' = [some (.int n), some (.ref p), x, some (.ref fl), y, none, none]) ∧ Kp [] H H' ∧ H' fl = some (.lst ((actF n (log.take i)).map V.bl))) ⟨⟨_, _, rfl⟩, k1, hF0⟩ (fun i σ' H' _ q => q.2.1.at0 hp) ?_ ?_
    · rintro i u σ' H' hu ⟨⟨x, y, rfl⟩, hk, hF⟩
      have hul : u.natAbs < (actF n (log.take i)).length := by rw [actF_len]; have := (hok u (mem_of hu)).2; omega
      have e2 : actF n (log.take (i + 1)) = (actF n (log.take i)).set u.natAbs true := by rw [take_snoc hu, actF_snoc]
      walk_at "w"
      refine ⟨⟨_, _, rfl⟩, hk.own hfl, ?_⟩
      rw [e2]
      exact upd_same
    · rintro σ' H2 ⟨⟨x, y, rfl⟩, hk2, hF⟩
      rw [List.take_length] at hF
      have hfln : (actF n log).length = (n + 2).toNat := actF_len n log
      walk_at "w"
      intro r hr
      walk_at "w"
      have hr0 : H r = none := hk2.free hr
      have hne : fl ≠ r := ne_of_none hF hr
      refine w_rng2 (lo := 1) (n := n + 2) (by omega) (by omega) (by omega) (by omega) (fun i σ' H' => (∃ x y, σ' = [some (.int n), some (.ref p), x, some (.ref fl), y, some (.ref r), some (.int (rg (actF n log) i).1)]) ∧ Kp [] H H' ∧ H' fl = some (.lst ((actF n log).map V.bl)) ∧ ∃ xs, H' r = some (.lst xs) ∧ Prs H' xs (rg (actF n log) i).2) ⟨⟨_, _, rfl⟩, hk2.own hr0, by walk_at "hp", [], upd_same, .nil⟩ ?_ ?_
      · rintro i σ' H' hi ⟨⟨x, y, rfl⟩, hk, hF, xs, hx, hps⟩
        have hxl := hps.len
        have hbl := rg_len (actF n log) i
        have hT : (1 + (i : Int)).toNat = i + 1 := by omega
        have e0 := rg_succ (actF n log) i
        unfold rg1 at e0
        refine s_cut (fun σ2 H2 => σ2 = [some (.int n), some (.ref p), some (.int (1 + (i : Int))), some (.ref fl), y, some (.ref r), some (.int (if (actF n log).getD (i + 1) default = true ∧ (rg (actF n log) i).1 = 0 then 1 + (i : Int) else (rg (actF n log) i).1))] ∧ H2 = H') ?_ ?_
        · walk_at "w"
          rw [hT]
          refine w_iteb (fun c1 => ?_) (fun c1 => ?_)
          · walk_at "w"
            refine w_ite (fun c2 => ?_) (fun c2 => ?_)
            · walk_at "w"
              rw [if_pos ⟨c1, c2⟩]
              exact ⟨rfl, rfl⟩
            · walk_at "w"
              rw [if_neg (fun z => c2 z.2)]
              exact ⟨rfl, rfl⟩
          · walk_at "w"
            rw [if_neg (fun z => by rw [z.1] at c1; cases c1)]
            exact ⟨rfl, rfl⟩
        · rintro σ2 H2 ⟨rfl, rfl⟩
          generalize (if (actF n log).getD (i + 1) default = true ∧ (rg (actF n log) i).1 = 0 then 1 + (i : Int) else (rg (actF n log) i).1) = z at e0 ⊢
          dsimp only at e0
          walk_at "w"
          rw [hT]
          refine w_itenb (fun c1 => ?_) (fun c1 => ?_)
          · walk_at "w"
            refine w_ite (fun c2 => ?_) (fun c2 => ?_)
            · walk_at "w"
              intro T hT
              walk_at "w"
              rw [if_pos ⟨c1, c2⟩] at e0
              rw [e0]
              exact ⟨⟨_, _, rfl⟩, (hk.new hT).own hr0, by walk_at "hp", _, upd_same, Prs.snoc ((hps.new hT).mut (upd_get (ne_of_none hx hT) hx)) (upd_get (Ne.symm (ne_of_none hx hT)) upd_same)⟩
            · walk_at "w"
              rw [if_neg (fun z => c2 z.2)] at e0
              rw [e0]
              exact ⟨⟨_, _, rfl⟩, hk, hF, xs, hx, hps⟩
          · walk_at "w"
            rw [if_neg (fun z => by rw [z.1] at c1; cases c1)] at e0
            rw [e0]
            exact ⟨⟨_, _, rfl⟩, hk, hF, xs, hx, hps⟩
      · rintro σ' H' ⟨⟨x, y, rfl⟩, hk, hF, xs, hx, hps⟩
        walk_at "w"
        rw [show (n + 2 - 1).toNat = (n + 1).toNat by omega] at hps
        exact k r H' xs hr0 hk hx hps
def sp__law_part_right (a : AD) : Sp := fun vs H Q _ => ∃ (n : Int) (p : Addr) (log : List Int) (lo hi : Int), vs = [.int n, .ref p, .int lo, .int hi] ∧ H p = some (.lst (log.map V.int)) ∧ log.length ≤ 100 ∧ 0 ≤ n ∧ n ≤ 60 ∧ (∀ o ∈ log, IsOp n o) ∧ 1 ≤ lo ∧ lo ≤ hi ∧ hi ≤ n ∧ ∀ H', Kp [] H H' → Q (.bl true) H'
theorem fm_take {β : Type} {f : Int → Option β} {log : List Int} {i : Nat} {u : Int} (h : log[i]? = some u) : (log.take (i + 1)).filterMap f = (log.take i).filterMap f ++ (f u).toList := fm_snoc f h
theorem sc__law_part_right : FnScope ["_law_size_here", "_law_log", "_law_low", "_law_high", "_law_due", "_law_operation", "_law_given", "_law_told"] ["_law_size_here", "_law_log", "_law_low", "_law_high"] (defScope s__law_part_right) := ⟨rfl, rfl, rfl, by decide +kernel, rfl, by decide +kernel, by decide +kernel⟩
theorem ok__law_part_right {P : Program} {w : World} {K : PySem.W.Frag} {mg : Str → Option Value} {base : Heap} {a : AD} (T : Txt P K mg a) (G_block_part : FnA P w K mg base 4 a.f_block_part ["size", "log", "low", "high"] (sp_block_part a)) (G__law_integers : FnA P w K mg base 3 a.f__law_integers ["_law_told", "_law_due"] (sp__law_integers a)) : FnA P w K mg base 5 a.f__law_part_right ["_law_size_here", "_law_log", "_law_low", "_law_high"] (sp__law_part_right a) := by
  obtain ⟨fd, F, b⟩ := T.F__law_part_right
  refine FnA.of F sc__law_part_right b (fun vs H Q E h => by first | (obtain ⟨rfl, _⟩ := h; rfl) | (obtain ⟨_, rfl, _⟩ := h; rfl) | (obtain ⟨_, _, rfl, _⟩ := h; rfl) | (obtain ⟨_, _, _, rfl, _⟩ := h; rfl) | (obtain ⟨_, _, _, _, rfl, _⟩ := h; rfl) | (obtain ⟨_, _, _, _, _, rfl, _⟩ := h; rfl) | (obtain ⟨_, _, _, _, _, _, rfl, _⟩ := h; rfl)) (fun cdv A outer s H vs Q E hr tk pz h => ?_)
  have hu := hr.units
  have hrH := L2H.roomH_of hr
  obtain ⟨n, p, log, lo, hi, rfl, hp, hl, n0, n1, hok, hlo, hlh, hhi, k⟩ := h
  refine ⟨_, (pss_cons (ps_set (i := 4) sc__law_part_right.nd rfl (Or.inl rfl) (pe_lst pa_nil))
      (pss_cons (ps_for pz rfl (pi_list (pv 1)) (pg_name (i := 5) sc__law_part_right.nd rfl (Or.inl rfl))
      (pss_cut (ps_if (PW.pt (pw_and (pt_chainA op_le op_le (pv 2) (pe_callB (b_abs) rfl T.b_abs (by decide +kernel) (pa_cons (pv 5) pa_nil)) (pv 3)) (pw_and1 (pt_cmpA op_lt (pv 5) pe_int (nomark _))))) (pss_one (ps_expr (pe_bm PySem.F.plainAttrs_list PySem.F.slot_list_append PySem.F.type_list_append mt_append (pv 4) (pa_cons (pe_op op_sub (pe_op o_add (pv 5) (pv 2)) pe_int) pa_nil)))) pss_nil)
      (pss_one (ps_if (pt_chainA op_le op_le (pv 2) (pv 5) (pv 3)) (pss_one (ps_expr (pe_bm PySem.F.plainAttrs_list PySem.F.slot_list_append PySem.F.type_list_append mt_append (pv 4) (pa_cons (pe_op o_add (pe_op op_sub (pv 5) (pv 2)) pe_int) pa_nil)))) pss_nil))))
      (pss_cons (ps_set (i := 6) sc__law_part_right.nd rfl (Or.inl rfl) (pe_callTy b_list rfl T.b_list (by decide +kernel) (pa_cons (pv 1) pa_nil)))
      (pss_cons (ps_set (i := 7) sc__law_part_right.nd rfl (Or.inl rfl) (pe_callA G_block_part (Room.mono hr (by decide)) T.n_block_part tk (pa_cons (pv 0) (pa_cons (pv 6) (pa_cons (pv 2) (pa_cons (pv 3) pa_nil))))))
      (pss_cons (ps_if (pt_not (pt_tru (pe_callA G__law_integers (Room.mono hr (by decide)) T.n__law_integers tk (pa_cons (pv 7) (pa_cons (pv 4) pa_nil))))) (pss_one (ps_ret pe_bl)) pss_nil)
      (pss_cons (ps_expr (pe_bm PySem.F.plainAttrs_list PySem.F.slot_list_append PySem.F.type_list_append mt_append (pv 7) (pa_cons pe_int pa_nil)))
      (pss_one (ps_ret (pe_callA G__law_integers (Room.mono hr (by decide)) T.n__law_integers tk (pa_cons (pv 6) (pa_cons (pv 1) pa_nil))))))))))), ?_⟩
  show (_ : Ends → L2.St → Hp → Prop) _ [some _, some _, some _, some _, none, none, none, none] _
  try dsimp only [L2H.cxH, cxOf]
  walk_at "w"
  intro due hdue
  have hdue0 : upd H due (.lst []) due = some (.lst (([] : List Int).map V.int)) := upd_same
  have hdp : due ≠ p := Ne.symm (ne_of_none hp hdue)
  walk_at "w"
  refine w_forM (us := log) (f := V.int) (p := p) (by walk_at "hp") (fun i σ' H' => (∃ x, σ' = [some (.int n), some (.ref p), some (.int lo), some (.int hi), some (.ref due), x, none, none]) ∧ Kp [] H H' ∧ H' due = some (.lst (((log.take i).filterMap (part1 lo hi)).map V.int))) ⟨⟨_, rfl⟩, Kp.refl.new hdue, hdue0⟩ (fun i σ' H' _ q => q.2.1.at0 hp) ?_ ?_
  · rintro i u σ' H' hu ⟨⟨x, rfl⟩, hk, hF⟩
    have hop := hok u (mem_of hu)
    have hu1 := hop.1
    have hll : ((log.take i).filterMap (part1 lo hi)).length < sizeLine := by
      have := fm_len (part1 lo hi) (log.take i)
      rw [List.length_take] at this
      rw [sizeLine_eq]; omega
    rw [fm_take hu]
    generalize (log.take i).filterMap (part1 lo hi) = dl at hF hll
    refine s_cut (fun σ2 H2 => σ2 = [some (.int n), some (.ref p), some (.int lo), some (.int hi), some (.ref due), some (.int u), none, none] ∧ Kp [] H H2 ∧ H2 due = some (.lst ((dl ++ (if u < 0 then part1 lo hi u else none).toList).map V.int))) ?_ ?_
    · walk_at "w"
      refine w_ite (fun c1 => ?_) (fun c1 => ?_)
      · walk_at "w"
        refine w_ite (fun c2 => ?_) (fun c2 => ?_)
        · walk_at "w"
          refine w_ite (fun c3 => ?_) (fun c3 => ?_)
          · walk_at "w"
            refine ⟨rfl, hk.own hdue, ?_⟩
            rw [upd_same, if_pos c3, part1, if_pos ⟨c1, c2⟩, if_neg (by omega), show u + lo - 1 = u + (lo - 1) by omega]
            rfl
          · walk_at "w"
            refine ⟨rfl, hk, ?_⟩
            rw [if_neg c3]
            simpa using hF
        · walk_at "w"
          refine ⟨rfl, hk, ?_⟩
          have e : part1 lo hi u = none := if_neg (fun z => c2 z.2)
          rw [e]
          simpa using hF
      · walk_at "w"
        refine ⟨rfl, hk, ?_⟩
        have e : part1 lo hi u = none := if_neg (fun z => c1 z.1)
        rw [e]
        simpa using hF
    · rintro σ2 H2 ⟨rfl, hk2, hF2⟩
      by_cases c0 : u < 0
      · rw [if_pos c0] at hF2
        walk_at "w"
        exact ⟨⟨_, rfl⟩, hk2, hF2⟩
      · rw [if_neg c0] at hF2
        have hF2 : H2 due = some (.lst (dl.map V.int)) := by simpa using hF2
        walk_at "w"
        refine w_ite (fun c1 => ?_) (fun c1 => ?_)
        · walk_at "w"
          refine w_ite (fun c2 => ?_) (fun c2 => ?_)
          · walk_at "w"
            refine ⟨⟨_, rfl⟩, hk2.own hdue, ?_⟩
            rw [upd_same, part1, if_pos ⟨by omega, by omega⟩, if_pos (by omega), show u - lo + 1 = u - (lo - 1) by omega]
            rfl
          · walk_at "w"
            refine ⟨⟨_, rfl⟩, hk2, ?_⟩
            rw [part1, if_neg (fun z => by omega)]
            simpa using hF2
        · walk_at "w"
          refine ⟨⟨_, rfl⟩, hk2, ?_⟩
          rw [part1, if_neg (fun z => by omega)]
          simpa using hF2
  · rintro σ' H1 ⟨⟨x, rfl⟩, k1, hF⟩
    rw [List.take_length] at hF
    have hpl := fm_len (part1 lo hi) log
    walk_at "w"
    intro g hg
    walk_at "w"
    refine ⟨n, g, log, lo, hi, rfl, upd_same, by omega, chk_ok n0 n1 hok fun H2 k2 => ⟨fun z => absurd ⟨hlo, hlh, hhi⟩ z, fun _ _ _ r H3 hr k3 hr3 => ?_⟩⟩
    have hr0 : H r = none := (k1.new hg).free hr
    have hg3 : H3 g = some (.lst (log.map V.int)) := k3.at0 upd_same
    have hd3 : H3 due = some (.lst ((log.filterMap (part1 lo hi)).map V.int)) := by walk_at "hp"
    have hp3 : H3 p = some (.lst (log.map V.int)) := by walk_at "hp"
    have hrg : r ≠ g := Ne.symm (ne_of_none upd_same hr)
    have hrp : r ≠ p := Ne.symm (ne_of_none (upd_new hg (k1.at0 hp)) hr)
    walk_at "w"
    refine ⟨_, _, _, _, rfl, hr3, hd3, by omega, by omega, ?_⟩
    walk_at "w"
    refine ⟨_, _, _, _, rfl, by walk_at "hp", by walk_at "hp", by omega, by omega, ?_⟩
    rw [show decide (log = log) = true by simp]
    exact k _ (((k1.new hg).trans k3).own hr0)
def sp__law_blocks_right (a : AD) : Sp := fun vs H Q _ => spRight vs H Q
theorem sc__law_blocks_right : FnScope ["_law_size_here", "_law_log", "_law_due", "_law_given", "_law_told", "_law_k", "_law_pair"] ["_law_size_here", "_law_log"] (defScope s__law_blocks_right) := ⟨rfl, rfl, rfl, by decide +kernel, rfl, by decide +kernel, by decide +kernel⟩
theorem ok__law_blocks_right {P : Program} {w : World} {K : PySem.W.Frag} {mg : Str → Option Value} {base : Heap} {a : AD} (T : Txt P K mg a) (G__law_ranges : FnA P w K mg base 2 a.f__law_ranges ["_law_size_here", "_law_log"] (sp__law_ranges a)) (G_blocks : FnA P w K mg base 4 a.f_blocks ["size", "log"] (sp_blocks a)) (G__law_integers : FnA P w K mg base 3 a.f__law_integers ["_law_told", "_law_due"] (sp__law_integers a)) (G__law_is : FnA P w K mg base 2 a.f__law_is ["_law_told", "_law_due"] (sp__law_is a)) (G__law_part_right : FnA P w K mg base 5 a.f__law_part_right ["_law_size_here", "_law_log", "_law_low", "_law_high"] (sp__law_part_right a)) : FnA P w K mg base 6 a.f__law_blocks_right ["_law_size_here", "_law_log"] (sp__law_blocks_right a) := by
  obtain ⟨fd, F, b⟩ := T.F__law_blocks_right
  refine FnA.of F sc__law_blocks_right b (fun vs H Q E h => by first | (obtain ⟨rfl, _⟩ := h; rfl) | (obtain ⟨_, rfl, _⟩ := h; rfl) | (obtain ⟨_, _, rfl, _⟩ := h; rfl) | (obtain ⟨_, _, _, rfl, _⟩ := h; rfl) | (obtain ⟨_, _, _, _, rfl, _⟩ := h; rfl) | (obtain ⟨_, _, _, _, _, rfl, _⟩ := h; rfl) | (obtain ⟨_, _, _, _, _, _, rfl, _⟩ := h; rfl)) (fun cdv A outer s H vs Q E hr tk pz h => ?_)
  have hu := hr.units
  have hrH := L2H.roomH_of hr
  obtain ⟨n, p, log, rfl, hp, hl, n0, n1, hok, k⟩ := h
  refine ⟨_, (pss_cons (ps_set (i := 2) sc__law_blocks_right.nd rfl (Or.inl rfl) (pe_callA G__law_ranges (Room.mono hr (by decide)) T.n__law_ranges tk (pa_cons (pv 0) (pa_cons (pv 1) pa_nil))))
      (pss_cons (ps_set (i := 3) sc__law_blocks_right.nd rfl (Or.inl rfl) (pe_callTy b_list rfl T.b_list (by decide +kernel) (pa_cons (pv 1) pa_nil)))
      (pss_cons (ps_set (i := 4) sc__law_blocks_right.nd rfl (Or.inl rfl) (pe_callA G_blocks (Room.mono hr (by decide)) T.n_blocks tk (pa_cons (pv 0) (pa_cons (pv 3) pa_nil))))
      (pss_cons (ps_if (PW.pt (pw_or (pt_not (pt_tru (pe_callB (call_isi) rfl T.b_isinstance (by decide +kernel) (pa_cons (pv 4) (pa_cons (pe_bltn (v := .ty "list") rfl T.b_list (by decide +kernel) rfl) pa_nil))))) (pw_or (pt_cmpA (o_ne hu) (pe_callB (b_len) rfl T.b_len (by decide +kernel) (pa_cons (pv 4) pa_nil)) (pe_callB (b_len) rfl T.b_len (by decide +kernel) (pa_cons (pv 2) pa_nil)) (nomark _)) (pw_or1 (pt_not (pt_tru (pe_callA G__law_integers (Room.mono hr (by decide)) T.n__law_integers tk (pa_cons (pv 3) (pa_cons (pv 1) pa_nil))))))))) (pss_one (ps_ret pe_bl)) pss_nil)
      (pss_cons (ps_for pz rfl (pi_range1 rfl T.b_range (pa_cons (pe_callB (b_len) rfl T.b_len (by decide +kernel) (pa_cons (pv 2) pa_nil)) pa_nil)) (pg_name (i := 5) sc__law_blocks_right.nd rfl (Or.inl rfl))
      (pss_cons (ps_set (i := 6) sc__law_blocks_right.nd rfl (Or.inl rfl) (pe_ix ix_seq (pv 4) (pv 5) (fun _ _ => rfl)))
      (pss_cons (ps_if (PW.pt (pw_or (pt_not (pt_tru (pe_callB (call_isi) rfl T.b_isinstance (by decide +kernel) (pa_cons (pv 6) (pa_cons (pe_bltn (v := .ty "tuple") rfl T.b_tuple (by decide +kernel) rfl) pa_nil))))) (pw_or1 (pt_cmpA (o_ne hu) (pe_callB (b_len) rfl T.b_len (by decide +kernel) (pa_cons (pv 6) pa_nil)) pe_int (nomark _))))) (pss_one (ps_ret pe_bl)) pss_nil)
      (pss_cons (ps_if (PW.pt (pw_or (pt_not (pt_tru (pe_callA G__law_is (Room.mono hr (by decide)) T.n__law_is tk (pa_cons (pe_ix ix_seq (pv 6) pe_int (fun _ _ => rfl)) (pa_cons (pe_ix ix_seq (pe_ix ix_seq (pv 2) (pv 5) (fun _ _ => rfl)) pe_int (fun _ _ => rfl)) pa_nil))))) (pw_or1 (pt_not (pt_tru (pe_callA G__law_is (Room.mono hr (by decide)) T.n__law_is tk (pa_cons (pe_ix ix_seq (pv 6) pe_int (fun _ _ => rfl)) (pa_cons (pe_ix ix_seq (pe_ix ix_seq (pv 2) (pv 5) (fun _ _ => rfl)) pe_int (fun _ _ => rfl)) pa_nil)))))))) (pss_one (ps_ret pe_bl)) pss_nil)
      (pss_one (ps_if (pt_not (pt_tru (pe_callA G__law_part_right (Room.mono hr (by decide)) T.n__law_part_right tk (pa_cons (pv 0) (pa_cons (pv 1) (pa_cons (pe_ix ix_seq (pe_ix ix_seq (pv 2) (pv 5) (fun _ _ => rfl)) pe_int (fun _ _ => rfl)) (pa_cons (pe_ix ix_seq (pe_ix ix_seq (pv 2) (pv 5) (fun _ _ => rfl)) pe_int (fun _ _ => rfl)) pa_nil))))))) (pss_one (ps_ret pe_bl)) pss_nil))))))
      (pss_one (ps_ret pe_bl))))))), ?_⟩
  show (_ : Ends → L2.St → Hp → Prop) _ [some _, some _, none, none, none, none, none] _
  try dsimp only [L2H.cxH, cxOf]
  have hbl : (blocksF n log).length ≤ 60 := by
    have := blk_len (actF n log) n.toNat
    unfold blocksF
    omega
  walk_at "w"
  refine ⟨n, p, log, rfl, hp, by omega, n0, n1, hok, fun due H1 xs hdue k1 hd1 hps1 => ?_⟩
  have hxl := hps1.len
  walk_at "w"
  intro g hg
  walk_at "w"
  refine ⟨n, g, log, rfl, upd_same, by omega, chk_ok n0 n1 hok fun H2 k2 r H3 ys hr k3 hr3 hps3 => ?_⟩
  have hyl := hps3.len
  have hr0 : H r = none := (k1.new hg).free hr
  have hg3 : H3 g = some (.lst (log.map V.int)) := k3.at0 upd_same
  have hp3 : H3 p = some (.lst (log.map V.int)) := by walk_at "hp"
  have hd3 : H3 due = some (.lst xs) := by walk_at "hp"
  have hpsx : Prs H3 xs (blocksF n log) := (hps1.new hg).kp0 k3
  walk_at "w"
  refine ⟨_, _, _, _, rfl, hg3, hp3, by omega, by omega, ?_⟩
  walk_at "w"
  refine w_rng1 (n := (xs.length : Int)) (by omega) (by omega) (fun i σ' H' => (∃ x y, σ' = [some (.int n), some (.ref p), some (.ref due), some (.ref g), some (.ref r), x, y]) ∧ Kp [] H3 H') ⟨⟨_, _, rfl⟩, Kp.refl⟩ ?_ ?_
  · rintro i σ' H' hi ⟨⟨x, y, rfl⟩, hk⟩
    obtain ⟨q, hq⟩ : ∃ q, (blocksF n log)[i]? = some q := ⟨_, List.getElem?_eq_getElem (by omega)⟩
    obtain ⟨t, ht1, ht2⟩ := hps3.get hq
    obtain ⟨u, hu1, hu2⟩ := hpsx.get hq
    have hqok := blocks_ok n0 log q (mem_of hq)
    have ht3 := hk.at0 ht2
    have hu3 := hk.at0 hu2
    have ht4 : ys[(i : Int).toNat]? = some (.ref t) := by simpa using ht1
    have hu4 : xs[(i : Int).toNat]? = some (.ref u) := by simpa using hu1
    have hr4 : H' r = some (.lst ys) := hk.at0 hr3
    have hd4 : H' due = some (.lst xs) := hk.at0 hd3
    have hp4 : H' p = some (.lst (log.map V.int)) := hk.at0 hp3
    walk_at "w"
    refine ⟨_, _, rfl, ?_⟩
    walk_at "w"
    refine ⟨_, _, rfl, ?_⟩
    walk_at "w"
    refine ⟨n, p, log, _, _, rfl, hp4, hl, n0, n1, hok, hqok.1, hqok.2.1, hqok.2.2, fun H5 k5 => ?_⟩
    walk_at "w"
    exact ⟨⟨_, _, rfl⟩, hk.trans k5⟩
  · rintro σ' H' ⟨⟨x, y, rfl⟩, hk⟩
    walk_at "w"
    exact k _ (((k1.new hg).trans k3).trans hk)
def sp__law_range_right (a : AD) : Sp := fun vs H Q _ => ∃ (n : Int) (p : Addr) (log : List Int) (lo hi : Int), vs = [.int n, .ref p, .int lo, .int hi] ∧ H p = some (.lst (log.map V.int)) ∧ log.length ≤ 100 ∧ 0 ≤ n ∧ n ≤ 60 ∧ (∀ o ∈ log, IsOp n o) ∧ ∀ H', Kp [] H H' → Q (.bl true) H'
theorem sc__law_range_right : FnScope ["_law_size_here", "_law_log", "_law_low", "_law_high", "_law_given", "raised"] ["_law_size_here", "_law_log", "_law_low", "_law_high"] (defScope s__law_range_right) := ⟨rfl, rfl, rfl, by decide +kernel, rfl, by decide +kernel, by decide +kernel⟩
theorem ok__law_range_right {P : Program} {w : World} {K : PySem.W.Frag} {mg : Str → Option Value} {base : Heap} {a : AD} (T : Txt P K mg a) (G__law_part_right : FnA P w K mg base 5 a.f__law_part_right ["_law_size_here", "_law_log", "_law_low", "_law_high"] (sp__law_part_right a)) (G_block_part : FnA P w K mg base 4 a.f_block_part ["size", "log", "low", "high"] (sp_block_part a)) (H__law_is : FnHA P w K mg base 2 a.f__law_is ["_law_told", "_law_due"] (sp__law_is a)) (H__law_integers : FnHA P w K mg base 3 a.f__law_integers ["_law_told", "_law_due"] (sp__law_integers a)) : FnA P w K mg base 6 a.f__law_range_right ["_law_size_here", "_law_log", "_law_low", "_law_high"] (sp__law_range_right a) := by
  obtain ⟨fd, F, b⟩ := T.F__law_range_right
  refine FnA.of F sc__law_range_right b (fun vs H Q E h => by first | (obtain ⟨rfl, _⟩ := h; rfl) | (obtain ⟨_, rfl, _⟩ := h; rfl) | (obtain ⟨_, _, rfl, _⟩ := h; rfl) | (obtain ⟨_, _, _, rfl, _⟩ := h; rfl) | (obtain ⟨_, _, _, _, rfl, _⟩ := h; rfl) | (obtain ⟨_, _, _, _, _, rfl, _⟩ := h; rfl) | (obtain ⟨_, _, _, _, _, _, rfl, _⟩ := h; rfl)) (fun cdv A outer s H vs Q E hr tk pz h => ?_)
  have hu := hr.units
  have hrH := L2H.roomH_of hr
  obtain ⟨n, p, log, lo, hi, rfl, hp, hl, n0, n1, hok, k⟩ := h
  refine ⟨_, (pss_cut (ps_if (pt_chain3A op_le op_le op_le pe_int (pv 2) (pv 3) (pv 0)) (pss_one (ps_ret (pe_callA G__law_part_right (Room.mono hr (by decide)) T.n__law_part_right tk (pa_cons (pv 0) (pa_cons (pv 1) (pa_cons (pv 2) (pa_cons (pv 3) pa_nil))))))) pss_nil)
      (pss_cons (ps_set (i := 4) sc__law_range_right.nd rfl (Or.inl rfl) (pe_callTy b_list rfl T.b_list (by decide +kernel) (pa_cons (pv 1) pa_nil)))
      (pss_cons (L2N.ps_try_as (i := 5) (tb := fun W => (tDrop (tCallS (sp_block_part a) (WE W) (tCons (tVar 0) (tCons (tVar 4) (tCons (tVar 2) (tCons (tVar 3) tNil))))))) (ts := fun ea cls d => (tSeq (tIfS (tOr (cTru K (tCB (rIsG K ea cls d) (tCons (tVar 5) (tCons (tC (.ref a.LogError)) tNil)))) (tOr (cTru K (tCB (rIsG K ea cls d) (tCons (tVar 5) (tCons (tC (.ref a.BadSize)) tNil)))) (tNot (cTru K (tCB (rIsG K ea cls d) (tCons (tVar 5) (tCons (tC (.ref a.LinkError)) tNil))))))) (tRet (tC (.bl false))) tNext) (tSeq (tIfS (tNot (cTru K (tCB (rIsG K ea cls d) (tCons (tVar 5) (tCons (tC (.ty "ValueError")) tNil))))) (tRet (tC (.bl false))) tNext) (tRet (tAndV (tCallS (sp__law_is a) (fun _ => E0) (tCons (tXfG K ea cls d "low" (tVar 5)) (tCons (tVar 2) tNil))) (tAndV (tCallS (sp__law_is a) (fun _ => E0) (tCons (tXfG K ea cls d "high" (tVar 5)) (tCons (tVar 3) tNil))) (tCallS (sp__law_integers a) (fun _ => E0) (tCons (tVar 4) (tCons (tVar 1) tNil))))))))) rfl rfl sc__law_range_right.nd rfl rfl ⟨rfl, by decide, Or.inl T.c_BadRange⟩ tk
      (fun W pn xe tk2 pz => (pss_one (ps_expr (pe_callA G_block_part (Room.mono hr (by decide)) T.n_block_part tk2 (pa_cons (pv 0) (pa_cons (pv 4) (pa_cons (pv 2) (pa_cons (pv 3) pa_nil))))))))
      (fun ea oe cls d pn hz hf => (pss_cons (ps_if (PW.pt (pw_or (pt_tru (pe_callB (by exact call_isG (L2N.Zn.zc hz) hf) rfl T.b_isinstance (by decide +kernel) (pa_cons (pv 5) (pa_cons (pe_glob (v := .ref a.LogError) rfl T.c_LogError rfl) pa_nil)))) (pw_or (pt_tru (pe_callB (by exact call_isG (L2N.Zn.zc hz) hf) rfl T.b_isinstance (by decide +kernel) (pa_cons (pv 5) (pa_cons (pe_glob (v := .ref a.BadSize) rfl T.c_BadSize rfl) pa_nil)))) (pw_or1 (pt_not (pt_tru (pe_callB (by exact call_isG (L2N.Zn.zc hz) hf) rfl T.b_isinstance (by decide +kernel) (pa_cons (pv 5) (pa_cons (pe_glob (v := .ref a.LinkError) rfl T.c_LinkError rfl) pa_nil))))))))) (pss_one (ps_ret pe_bl)) pss_nil)
      (pss_cons (ps_if (pt_not (pt_tru (pe_callB (by exact call_isG (L2N.Zn.zc hz) hf) rfl T.b_isinstance (by decide +kernel) (pa_cons (pv 5) (pa_cons (pe_bltn (v := .ty "ValueError") rfl T.b_ValueError (by decide +kernel) rfl) pa_nil))))) (pss_one (ps_ret pe_bl)) pss_nil)
      (pss_one (ps_ret (pe_and (pe_callHA H__law_is (roomH_s hrH (by decide) rfl rfl) (hot_suite hz hf) T.n__law_is (pa_cons (by exact pe_xfG (L2N.Zn.zc hz) hf (pv 5)) (pa_cons (pv 2) pa_nil))) (pe_and (pe_callHA H__law_is (roomH_s hrH (by decide) rfl rfl) (hot_suite hz hf) T.n__law_is (pa_cons (by exact pe_xfG (L2N.Zn.zc hz) hf (pv 5)) (pa_cons (pv 3) pa_nil))) (pe_one (pe_callHA H__law_integers (roomH_s hrH (by decide) rfl rfl) (hot_suite hz hf) T.n__law_integers (pa_cons (pv 4) (pa_cons (pv 1) pa_nil))))))))))))
      (pss_one (ps_ret pe_bl))))), ?_⟩
  show (_ : Ends → L2.St → Hp → Prop) _ [some _, some _, some _, some _, none, none] _
  try dsimp only [L2H.cxH, cxOf]
  refine s_cut (fun σ' H' => σ' = [some (.int n), some (.ref p), some (.int lo), some (.int hi), none, none] ∧ H' = H ∧ ¬(1 ≤ lo ∧ lo ≤ hi ∧ hi ≤ n)) ?_ ?_
  · walk_at "w"
    refine w_ite (fun c1 => ?_) (fun c1 => ?_)
    · walk_at "w"
      refine w_ite (fun c2 => ?_) (fun c2 => ?_)
      · walk_at "w"
        refine w_ite (fun c3 => ?_) (fun c3 => ?_)
        · walk_at "w"
          exact ⟨n, p, log, lo, hi, rfl, hp, hl, n0, n1, hok, c1, c2, c3, k⟩
        · walk_at "w"
          exact ⟨rfl, rfl, fun z => c3 z.2.2⟩
      · walk_at "w"
        exact ⟨rfl, rfl, fun z => c2 z.2.1⟩
    · walk_at "w"
      exact ⟨rfl, rfl, fun z => c1 z.1⟩
  · rintro σ' H' ⟨rfl, rfl, bad⟩
    walk_at "w"
    intro g hg
    walk_at "w"
    refine ⟨n, g, log, lo, hi, rfl, upd_same, by omega, chk_ok n0 n1 hok fun H2 k2 => ⟨fun _ d H3 hd hd3 k3 => ?_, fun z1 z2 z3 => absurd ⟨z1, z2, z3⟩ bad⟩⟩
    refine w_asT T.t_BadRange_BadRange.2 (fun x hx => ?_)
    have hg3 : H3 g = some (.lst (log.map V.int)) := k3.at0 upd_same
    have k03 := (Kp.refl.new hg).trans k3
    have hp3 : H3 p = some (.lst (log.map V.int)) := k03.at0 hp
    walk_at "w"
    refine ⟨_, _, rfl, ?_⟩
    walk_at "w"
    refine ⟨_, _, rfl, ?_⟩
    walk_at "w"
    refine ⟨_, _, _, _, rfl, hg3, hp3, by omega, by omega, ?_⟩
    rw [show decide (log = log) = true by simp]
    exact k _ k03
/-- one of the five questions: what is known of its answer -/
def sp__law_asked (a : AD) : Sp := fun vs H Q E => ∃ (w n : Int) (p : Addr) (log : List Int) (lo hi : Int), vs = [.int w, .int n, .ref p, .int lo, .int hi] ∧ H p = some (.lst (log.map V.int)) ∧ log.length ≤ 1000 ∧ ((¬(0 ≤ n ∧ n ≤ 60) ∧ xBadSize a n E H) ∨ (0 ≤ n ∧ n ≤ 60 ∧ ∃ (i : Nat) (o : Int), log[i]? = some o ∧ ¬IsOp n o ∧ (∀ j o', j < i → log[j]? = some o' → IsOp n o') ∧ xBadOp a o i E H))
theorem chk_bad {a : AD} {n : Int} {log : List Int} {H : Hp} {E : XK} {k : Hp → Prop} (h : (¬(0 ≤ n ∧ n ≤ 60) ∧ xBadSize a n E H) ∨ (0 ≤ n ∧ n ≤ 60 ∧ ∃ (i : Nat) (o : Int), log[i]? = some o ∧ ¬IsOp n o ∧ (∀ j o', j < i → log[j]? = some o' → IsOp n o') ∧ xBadOp a o i E H)) : aChk a n log H E k := by
  rcases h with ⟨h1, h2⟩ | ⟨n0, n1, i, o, hi, ho, hj, hx⟩
  · exact ⟨fun _ => h2, fun z1 z2 => absurd ⟨z1, z2⟩ h1, fun z1 z2 => absurd ⟨z1, z2⟩ h1⟩
  · refine ⟨fun z => absurd ⟨n0, n1⟩ z, fun _ _ i' o' hi' ho' hj' => ?_, fun _ _ hok => absurd (hok o (mem_of hi)) ho⟩
    have : i = i' := by
      rcases Nat.lt_trichotomy i i' with z | z | z
      · exact absurd (hj' i o z hi) ho
      · exact z
      · exact absurd (hj i' o' z hi') ho'
    subst this
    rw [hi] at hi'
    cases hi'
    exact hx
theorem sc__law_asked : FnScope ["_law_way", "_law_size_here", "_law_log", "_law_low", "_law_high"] ["_law_way", "_law_size_here", "_law_log", "_law_low", "_law_high"] (defScope s__law_asked) := ⟨rfl, rfl, rfl, by decide +kernel, rfl, by decide +kernel, by decide +kernel⟩
theorem ok__law_asked {P : Program} {w : World} {K : PySem.W.Frag} {mg : Str → Option Value} {base : Heap} {a : AD} (T : Txt P K mg a) (G_first_illegal : FnA P w K mg base 5 a.f_first_illegal ["size", "log"] (sp_first_illegal a)) (G_strikes : FnA P w K mg base 4 a.f_strikes ["size", "log"] (sp_strikes a)) (G_mirror : FnA P w K mg base 4 a.f_mirror ["size", "log"] (sp_mirror a)) (G_blocks : FnA P w K mg base 4 a.f_blocks ["size", "log"] (sp_blocks a)) (G_block_part : FnA P w K mg base 4 a.f_block_part ["size", "log", "low", "high"] (sp_block_part a)) : FnA P w K mg base 6 a.f__law_asked ["_law_way", "_law_size_here", "_law_log", "_law_low", "_law_high"] (sp__law_asked a) := by
  obtain ⟨fd, F, b⟩ := T.F__law_asked
  refine FnA.of F sc__law_asked b (fun vs H Q E h => by first | (obtain ⟨rfl, _⟩ := h; rfl) | (obtain ⟨_, rfl, _⟩ := h; rfl) | (obtain ⟨_, _, rfl, _⟩ := h; rfl) | (obtain ⟨_, _, _, rfl, _⟩ := h; rfl) | (obtain ⟨_, _, _, _, rfl, _⟩ := h; rfl) | (obtain ⟨_, _, _, _, _, rfl, _⟩ := h; rfl) | (obtain ⟨_, _, _, _, _, _, rfl, _⟩ := h; rfl)) (fun cdv A outer s H vs Q E hr tk pz h => ?_)
  have hu := hr.units
  have hrH := L2H.roomH_of hr
  obtain ⟨w', n, p, log, lo, hi, rfl, hp, hl, h⟩ := h
  refine ⟨_, (pss_cons (ps_if (pt_cmpA (o_eq hu) (pv 0) pe_int (nomark _)) (pss_one (ps_ret (pe_callA G_first_illegal (Room.mono hr (by decide)) T.n_first_illegal tk (pa_cons (pv 1) (pa_cons (pv 2) pa_nil))))) pss_nil)
      (pss_cons (ps_if (pt_cmpA (o_eq hu) (pv 0) pe_int (nomark _)) (pss_one (ps_ret (pe_callA G_strikes (Room.mono hr (by decide)) T.n_strikes tk (pa_cons (pv 1) (pa_cons (pv 2) pa_nil))))) pss_nil)
      (pss_cons (ps_if (pt_cmpA (o_eq hu) (pv 0) pe_int (nomark _)) (pss_one (ps_ret (pe_callA G_mirror (Room.mono hr (by decide)) T.n_mirror tk (pa_cons (pv 1) (pa_cons (pv 2) pa_nil))))) pss_nil)
      (pss_cons (ps_if (pt_cmpA (o_eq hu) (pv 0) pe_int (nomark _)) (pss_one (ps_ret (pe_callA G_blocks (Room.mono hr (by decide)) T.n_blocks tk (pa_cons (pv 1) (pa_cons (pv 2) pa_nil))))) pss_nil)
      (pss_one (ps_ret (pe_callA G_block_part (Room.mono hr (by decide)) T.n_block_part tk (pa_cons (pv 1) (pa_cons (pv 2) (pa_cons (pv 3) (pa_cons (pv 4) pa_nil))))))))))), ?_⟩
  show (_ : Ends → L2.St → Hp → Prop) _ [some _, some _, some _, some _, some _] _
  try dsimp only [L2H.cxH, cxOf]
  walk_at "w"
  refine w_ite (fun c => ?_) (fun c => ?_)
  · walk_at "w"
    exact ⟨n, p, log, rfl, hp, by omega, chk_bad h⟩
  · walk_at "w"
    refine w_ite (fun c => ?_) (fun c => ?_)
    · walk_at "w"
      exact ⟨n, p, log, rfl, hp, by omega, chk_bad h⟩
    · walk_at "w"
      refine w_ite (fun c => ?_) (fun c => ?_)
      · walk_at "w"
        exact ⟨n, p, log, rfl, hp, by omega, chk_bad h⟩
      · walk_at "w"
        refine w_ite (fun c => ?_) (fun c => ?_)
        · walk_at "w"
          exact ⟨n, p, log, rfl, hp, by omega, chk_bad h⟩
        · walk_at "w"
          exact ⟨n, p, log, lo, hi, rfl, hp, by omega, chk_bad h⟩
def sp__law_size_refused (a : AD) : Sp := fun vs H Q E => ∃ (w n : Int) (p : Addr) (log : List Int) (lo hi : Int), vs = [.int w, .int n, .ref p, .int lo, .int hi] ∧ H p = some (.lst (log.map V.int)) ∧ log.length ≤ 1000 ∧ ¬(0 ≤ n ∧ n ≤ 60) ∧ ∀ H', Kp [] H H' → Q (.bl true) H'
theorem sc__law_size_refused : FnScope ["_law_way", "_law_size_here", "_law_log", "_law_low", "_law_high", "_law_given", "raised"] ["_law_way", "_law_size_here", "_law_log", "_law_low", "_law_high"] (defScope s__law_size_refused) := ⟨rfl, rfl, rfl, by decide +kernel, rfl, by decide +kernel, by decide +kernel⟩
theorem ok__law_size_refused {P : Program} {w : World} {K : PySem.W.Frag} {mg : Str → Option Value} {base : Heap} {a : AD} (T : Txt P K mg a) (G__law_asked : FnA P w K mg base 6 a.f__law_asked ["_law_way", "_law_size_here", "_law_log", "_law_low", "_law_high"] (sp__law_asked a)) (H__law_is : FnHA P w K mg base 2 a.f__law_is ["_law_told", "_law_due"] (sp__law_is a)) (H__law_integers : FnHA P w K mg base 3 a.f__law_integers ["_law_told", "_law_due"] (sp__law_integers a)) : FnA P w K mg base 7 a.f__law_size_refused ["_law_way", "_law_size_here", "_law_log", "_law_low", "_law_high"] (sp__law_size_refused a) := by
  obtain ⟨fd, F, b⟩ := T.F__law_size_refused
  refine FnA.of F sc__law_size_refused b (fun vs H Q E h => by first | (obtain ⟨rfl, _⟩ := h; rfl) | (obtain ⟨_, rfl, _⟩ := h; rfl) | (obtain ⟨_, _, rfl, _⟩ := h; rfl) | (obtain ⟨_, _, _, rfl, _⟩ := h; rfl) | (obtain ⟨_, _, _, _, rfl, _⟩ := h; rfl) | (obtain ⟨_, _, _, _, _, rfl, _⟩ := h; rfl) | (obtain ⟨_, _, _, _, _, _, rfl, _⟩ := h; rfl)) (fun cdv A outer s H vs Q E hr tk pz h => ?_)
  have hu := hr.units
  have hrH := L2H.roomH_of hr
  obtain ⟨w', n, p, log, lo, hi, rfl, hp, hl, hn, k⟩ := h
  refine ⟨_, (pss_cons (ps_set (i := 5) sc__law_size_refused.nd rfl (Or.inl rfl) (pe_callTy b_list rfl T.b_list (by decide +kernel) (pa_cons (pv 2) pa_nil)))
      (pss_cons (L2N.ps_try_as (i := 6) (tb := fun W => (tDrop (tCallS (sp__law_asked a) (WE W) (tCons (tVar 0) (tCons (tVar 1) (tCons (tVar 5) (tCons (tVar 3) (tCons (tVar 4) tNil)))))))) (ts := fun ea cls d => (tSeq (tIfS (tOr (cTru K (tCB (rIsG K ea cls d) (tCons (tVar 6) (tCons (tC (.ref a.LogError)) tNil)))) (tNot (cTru K (tCB (rIsG K ea cls d) (tCons (tVar 6) (tCons (tC (.ref a.LinkError)) tNil)))))) (tRet (tC (.bl false))) tNext) (tRet (tAndV (tCB (rIsG K ea cls d) (tCons (tVar 6) (tCons (tC (.ty "ValueError")) tNil))) (tAndV (tCallS (sp__law_is a) (fun _ => E0) (tCons (tXfG K ea cls d "size" (tVar 6)) (tCons (tVar 1) tNil))) (tCallS (sp__law_integers a) (fun _ => E0) (tCons (tVar 5) (tCons (tVar 2) tNil)))))))) rfl rfl sc__law_size_refused.nd rfl rfl ⟨rfl, by decide, Or.inl T.c_BadSize⟩ tk
      (fun W pn xe tk2 pz => (pss_one (ps_expr (pe_callA G__law_asked (Room.mono hr (by decide)) T.n__law_asked tk2 (pa_cons (pv 0) (pa_cons (pv 1) (pa_cons (pv 5) (pa_cons (pv 3) (pa_cons (pv 4) pa_nil)))))))))
      (fun ea oe cls d pn hz hf => (pss_cons (ps_if (PW.pt (pw_or (pt_tru (pe_callB (by exact call_isG (L2N.Zn.zc hz) hf) rfl T.b_isinstance (by decide +kernel) (pa_cons (pv 6) (pa_cons (pe_glob (v := .ref a.LogError) rfl T.c_LogError rfl) pa_nil)))) (pw_or1 (pt_not (pt_tru (pe_callB (by exact call_isG (L2N.Zn.zc hz) hf) rfl T.b_isinstance (by decide +kernel) (pa_cons (pv 6) (pa_cons (pe_glob (v := .ref a.LinkError) rfl T.c_LinkError rfl) pa_nil)))))))) (pss_one (ps_ret pe_bl)) pss_nil)
      (pss_one (ps_ret (pe_and (pe_callB (by exact call_isG (L2N.Zn.zc hz) hf) rfl T.b_isinstance (by decide +kernel) (pa_cons (pv 6) (pa_cons (pe_bltn (v := .ty "ValueError") rfl T.b_ValueError (by decide +kernel) rfl) pa_nil))) (pe_and (pe_callHA H__law_is (roomH_s hrH (by decide) rfl rfl) (hot_suite hz hf) T.n__law_is (pa_cons (by exact pe_xfG (L2N.Zn.zc hz) hf (pv 6)) (pa_cons (pv 1) pa_nil))) (pe_one (pe_callHA H__law_integers (roomH_s hrH (by decide) rfl rfl) (hot_suite hz hf) T.n__law_integers (pa_cons (pv 5) (pa_cons (pv 2) pa_nil)))))))))))
      (pss_one (ps_ret pe_bl)))), ?_⟩
  show (_ : Ends → L2.St → Hp → Prop) _ [some _, some _, some _, some _, some _, none, none] _
  try dsimp only [L2H.cxH, cxOf]
  walk_at "w"
  intro g hg
  walk_at "w"
  refine ⟨w', n, g, log, lo, hi, rfl, upd_same, by omega, .inl ⟨hn, fun d H3 hd hd3 k3 => ?_⟩⟩
  refine w_asT T.t_BadSize_BadSize.2 (fun x hx => ?_)
  have hg3 : H3 g = some (.lst (log.map V.int)) := k3.at0 upd_same
  have k03 := (Kp.refl.new hg).trans k3
  have hp3 : H3 p = some (.lst (log.map V.int)) := k03.at0 hp
  walk_at "w"
  refine ⟨_, _, rfl, ?_⟩
  walk_at "w"
  refine ⟨_, _, _, _, rfl, hg3, hp3, by omega, by omega, ?_⟩
  rw [show decide (log = log) = true by simp]
  exact k _ k03
def sp__law_operation_refused (a : AD) : Sp := fun vs H Q E => ∃ (w n : Int) (p : Addr) (log : List Int) (lo hi : Int), vs = [.int w, .int n, .ref p, .int lo, .int hi] ∧ H p = some (.lst (log.map V.int)) ∧ log.length ≤ 1000 ∧ 0 ≤ n ∧ n ≤ 60 ∧ (∃ o ∈ log, ¬IsOp n o) ∧ ∀ H', Kp [] H H' → Q (.bl true) H'
theorem sc__law_operation_refused : FnScope ["_law_way", "_law_size_here", "_law_log", "_law_low", "_law_high", "_law_due", "_law_given", "raised"] ["_law_way", "_law_size_here", "_law_log", "_law_low", "_law_high"] (defScope s__law_operation_refused) := ⟨rfl, rfl, rfl, by decide +kernel, rfl, by decide +kernel, by decide +kernel⟩
theorem ok__law_operation_refused {P : Program} {w : World} {K : PySem.W.Frag} {mg : Str → Option Value} {base : Heap} {a : AD} (T : Txt P K mg a) (G__law_asked : FnA P w K mg base 6 a.f__law_asked ["_law_way", "_law_size_here", "_law_log", "_law_low", "_law_high"] (sp__law_asked a)) (H__law_is : FnHA P w K mg base 2 a.f__law_is ["_law_told", "_law_due"] (sp__law_is a)) (H__law_integers : FnHA P w K mg base 3 a.f__law_integers ["_law_told", "_law_due"] (sp__law_integers a)) : FnA P w K mg base 7 a.f__law_operation_refused ["_law_way", "_law_size_here", "_law_log", "_law_low", "_law_high"] (sp__law_operation_refused a) := by
  obtain ⟨fd, F, b⟩ := T.F__law_operation_refused
  refine FnA.of F sc__law_operation_refused b (fun vs H Q E h => by first | (obtain ⟨rfl, _⟩ := h; rfl) | (obtain ⟨_, rfl, _⟩ := h; rfl) | (obtain ⟨_, _, rfl, _⟩ := h; rfl) | (obtain ⟨_, _, _, rfl, _⟩ := h; rfl) | (obtain ⟨_, _, _, _, rfl, _⟩ := h; rfl) | (obtain ⟨_, _, _, _, _, rfl, _⟩ := h; rfl) | (obtain ⟨_, _, _, _, _, _, rfl, _⟩ := h; rfl)) (fun cdv A outer s H vs Q E hr tk pz h => ?_)
  have hu := hr.units
  have hrH := L2H.roomH_of hr
  obtain ⟨w', n, p, log, lo, hi, rfl, hp, hl, n0, n1, hbad, k⟩ := h
  refine ⟨_, (pss_cons (ps_set (i := 5) sc__law_operation_refused.nd rfl (Or.inl rfl) pe_int)
      (pss_cons (ps_while pz (PW.pt (pw_and (pt_cmpA op_lt (pv 5) (pe_callB (b_len) rfl T.b_len (by decide +kernel) (pa_cons (pv 2) pa_nil)) (nomark _)) (pw_and1 (pt_chainA op_le op_le pe_int (pe_callB (b_abs) rfl T.b_abs (by decide +kernel) (pa_cons (pe_ix ix_seq (pv 2) (pv 5) (fun _ _ => rfl)) pa_nil)) (pv 1)))))
      (pss_one (ps_set (i := 5) sc__law_operation_refused.nd rfl (Or.inl rfl) (pe_op o_add (pv 5) pe_int))))
      (pss_cons (ps_set (i := 6) sc__law_operation_refused.nd rfl (Or.inl rfl) (pe_callTy b_list rfl T.b_list (by decide +kernel) (pa_cons (pv 2) pa_nil)))
      (pss_cons (L2N.ps_try_as (i := 7) (tb := fun W => (tDrop (tCallS (sp__law_asked a) (WE W) (tCons (tVar 0) (tCons (tVar 1) (tCons (tVar 6) (tCons (tVar 3) (tCons (tVar 4) tNil)))))))) (ts := fun ea cls d => (tSeq (tIfS (tOr (tNot (cTru K (tCB (rIsG K ea cls d) (tCons (tVar 7) (tCons (tC (.ref a.LogError)) tNil))))) (tOr (cTru K (tCB (rIsG K ea cls d) (tCons (tVar 7) (tCons (tC (.ref a.Illegal)) tNil)))) (cTru K (tCB (rIsG K ea cls d) (tCons (tVar 7) (tCons (tC (.ref a.Refused)) tNil)))))) (tRet (tC (.bl false))) tNext) (tSeq (tIfS (tOr (tNot (cTru K (tCB (rIsG K ea cls d) (tCons (tVar 7) (tCons (tC (.ref a.LinkError)) tNil))))) (tNot (cTru K (tCB (rIsG K ea cls d) (tCons (tVar 7) (tCons (tC (.ty "ValueError")) tNil)))))) (tRet (tC (.bl false))) tNext) (tSeq (tIfS (tOr (tNot (cTru K (tCallS (sp__law_is a) (fun _ => E0) (tCons (tXfG K ea cls d "operation" (tVar 7)) (tCons (tOp (rIx K) (tVar 2) (tVar 5)) tNil))))) (tNot (cTru K (tCallS (sp__law_is a) (fun _ => E0) (tCons (tXfG K ea cls d "index" (tVar 7)) (tCons (tVar 5) tNil)))))) (tRet (tC (.bl false))) tNext) (tRet (tCallS (sp__law_integers a) (fun _ => E0) (tCons (tVar 6) (tCons (tVar 2) tNil)))))))) rfl rfl sc__law_operation_refused.nd rfl rfl ⟨rfl, by decide, Or.inl T.c_BadOperation⟩ tk
      (fun W pn xe tk2 pz => (pss_one (ps_expr (pe_callA G__law_asked (Room.mono hr (by decide)) T.n__law_asked tk2 (pa_cons (pv 0) (pa_cons (pv 1) (pa_cons (pv 6) (pa_cons (pv 3) (pa_cons (pv 4) pa_nil)))))))))
      (fun ea oe cls d pn hz hf => (pss_cons (ps_if (PW.pt (pw_or (pt_not (pt_tru (pe_callB (by exact call_isG (L2N.Zn.zc hz) hf) rfl T.b_isinstance (by decide +kernel) (pa_cons (pv 7) (pa_cons (pe_glob (v := .ref a.LogError) rfl T.c_LogError rfl) pa_nil))))) (pw_or (pt_tru (pe_callB (by exact call_isG (L2N.Zn.zc hz) hf) rfl T.b_isinstance (by decide +kernel) (pa_cons (pv 7) (pa_cons (pe_glob (v := .ref a.Illegal) rfl T.c_Illegal rfl) pa_nil)))) (pw_or1 (pt_tru (pe_callB (by exact call_isG (L2N.Zn.zc hz) hf) rfl T.b_isinstance (by decide +kernel) (pa_cons (pv 7) (pa_cons (pe_glob (v := .ref a.Refused) rfl T.c_Refused rfl) pa_nil)))))))) (pss_one (ps_ret pe_bl)) pss_nil)
      (pss_cons (ps_if (PW.pt (pw_or (pt_not (pt_tru (pe_callB (by exact call_isG (L2N.Zn.zc hz) hf) rfl T.b_isinstance (by decide +kernel) (pa_cons (pv 7) (pa_cons (pe_glob (v := .ref a.LinkError) rfl T.c_LinkError rfl) pa_nil))))) (pw_or1 (pt_not (pt_tru (pe_callB (by exact call_isG (L2N.Zn.zc hz) hf) rfl T.b_isinstance (by decide +kernel) (pa_cons (pv 7) (pa_cons (pe_bltn (v := .ty "ValueError") rfl T.b_ValueError (by decide +kernel) rfl) pa_nil)))))))) (pss_one (ps_ret pe_bl)) pss_nil)
      (pss_cons (ps_if (PW.pt (pw_or (pt_not (pt_tru (pe_callHA H__law_is (roomH_s hrH (by decide) rfl rfl) (hot_suite hz hf) T.n__law_is (pa_cons (by exact pe_xfG (L2N.Zn.zc hz) hf (pv 7)) (pa_cons (pe_ix ix_seq (pv 2) (pv 5) (fun _ _ => rfl)) pa_nil))))) (pw_or1 (pt_not (pt_tru (pe_callHA H__law_is (roomH_s hrH (by decide) rfl rfl) (hot_suite hz hf) T.n__law_is (pa_cons (by exact pe_xfG (L2N.Zn.zc hz) hf (pv 7)) (pa_cons (pv 5) pa_nil)))))))) (pss_one (ps_ret pe_bl)) pss_nil)
      (pss_one (ps_ret (pe_callHA H__law_integers (roomH_s hrH (by decide) rfl rfl) (hot_suite hz hf) T.n__law_integers (pa_cons (pv 6) (pa_cons (pv 2) pa_nil))))))))))
      (pss_one (ps_ret pe_bl)))))), ?_⟩
  show (_ : Ends → L2.St → Hp → Prop) _ [some _, some _, some _, some _, some _, none, none, none] _
  try dsimp only [L2H.cxH, cxOf]
  walk_at "w"
  refine w_while (fun σ' H' => H' = H ∧ ∃ i : Nat, σ' = [some (.int w'), some (.int n), some (.ref p), some (.int lo), some (.int hi), some (.int (i : Int)), none, none] ∧ (∀ j o', j < i → log[j]? = some o' → IsOp n o') ∧ i ≤ log.length) (fun σ' H' => match σ' with | [_, _, _, _, _, some (.int i), _, _] => log.length - i.toNat | _ => 0) ⟨rfl, 0, rfl, fun j o' hj => by omega, Nat.zero_le _⟩ ?_
  rintro σ' H' ⟨rfl, i, rfl, hj, hil⟩
  have hlt : i < log.length := by
    obtain ⟨o, ho, hno⟩ := hbad
    obtain ⟨j, hj', rfl⟩ := List.getElem_of_mem ho
    by_cases z : j < i
    · exact absurd (hj j _ z (List.getElem?_eq_getElem hj')) hno
    · omega
  have hu : log[i]? = some (log.getD i default) := by simp [List.getD, List.getElem?_eq_getElem hlt]
  have hui : (i : Int).toNat = i := by omega
  walk_at "w"
  rw [hui]
  have next : IsOp n (log.getD i default) → ∀ j o', j < i + 1 → log[j]? = some o' → IsOp n o' := fun hop j o' hj' ho' => by
    by_cases z : j < i
    · exact hj j o' z ho'
    · obtain rfl : j = i := by omega
      rw [hu] at ho'
      cases ho'
      exact hop
  refine w_ite (fun c1 => ?_) (fun c1 => ?_)
  · walk_at "w"
    refine w_ite (fun c2 => ?_) (fun c2 => ?_)
    · walk_at "w"
      refine w_turn ?_
      walk_at "w"
      refine ⟨⟨rfl, i + 1, rfl, next ⟨by omega, c2⟩, hlt⟩, ?_⟩
      show log.length - ((i : Int) + 1).toNat < log.length - (i : Int).toNat
      omega
    · have hno : ¬IsOp n (log.getD i default) := fun z => c2 z.2
      walk_at "w"
      intro g hg
      walk_at "w"
      refine ⟨w', n, g, log, lo, hi, rfl, upd_same, by omega, .inr ⟨n0, n1, i, _, hu, hno, hj, fun d H3 hd hd3 k3 => ?_⟩⟩
      refine w_asT T.t_BadOperation_BadOperation.2 (fun x hx => ?_)
      have hg3 : H3 g = some (.lst (log.map V.int)) := k3.at0 upd_same
      have k03 := (Kp.refl.new hg).trans k3
      have hp3 : H3 p = some (.lst (log.map V.int)) := k03.at0 hp
      walk_at "w"
      rw [hui]
      refine ⟨_, _, rfl, ?_⟩
      walk_at "w"
      refine ⟨_, _, rfl, ?_⟩
      walk_at "w"
      refine ⟨_, _, _, _, rfl, hg3, hp3, by omega, by omega, ?_⟩
      rw [show decide (log = log) = true by simp]
      exact k _ k03
  · have hno : ¬IsOp n (log.getD i default) := fun z => by have := z.1; omega
    walk_at "w"
    intro g hg
    walk_at "w"
    refine ⟨w', n, g, log, lo, hi, rfl, upd_same, by omega, .inr ⟨n0, n1, i, _, hu, hno, hj, fun d H3 hd hd3 k3 => ?_⟩⟩
    refine w_asT T.t_BadOperation_BadOperation.2 (fun x hx => ?_)
    have hg3 : H3 g = some (.lst (log.map V.int)) := k3.at0 upd_same
    have k03 := (Kp.refl.new hg).trans k3
    have hp3 : H3 p = some (.lst (log.map V.int)) := k03.at0 hp
    walk_at "w"
    rw [hui]
    refine ⟨_, _, rfl, ?_⟩
    walk_at "w"
    refine ⟨_, _, rfl, ?_⟩
    walk_at "w"
    refine ⟨_, _, _, _, rfl, hg3, hp3, by omega, by omega, ?_⟩
    rw [show decide (log = log) = true by simp]
    exact k _ k03
def spL (K : PySem.W.Frag) : Sp := fun vs H Q E => ∃ (p : Addr) (ns : List Int), vs = [.ref p] ∧ SqL K H p (ns.map V.int) ∧ ∀ H', Q (.bl true) H'
theorem spL_ok {K : PySem.W.Frag} {H : Hp} {a : Addr} {ns : List Int} (hl : ns.length ≤ 63) (hS : SqL K H a (ns.map V.int)) : spL K [.ref a] H (fun v _ => v = .bl true) fun _ _ _ => False := ⟨a, ns, rfl, hS, fun _ => rfl⟩
theorem sc_law : FnScope ["_law_script", "_law_box_here", "_law_size_here", "_law_log", "_law_low", "_law_high", "_law_bent_here", "_law_far", "_law_way"] ["_law_script"] (defScope s_law) := ⟨rfl, rfl, rfl, by decide +kernel, rfl, by decide +kernel, by decide +kernel⟩
theorem ok_law {P : Program} {w : World} {K : PySem.W.Frag} {mg : Str → Option Value} {base : Heap} {a : AD} (T : Txt P K mg a) {fd : FuncData} (F : Fun K "law" "law" s_law a.f_law fd) (G__law_box : FnA P w K mg base 2 a.f__law_box ["_law_script"] (sp__law_box K a)) (G__law_size : FnA P w K mg base 3 a.f__law_size ["_law_box_here"] (sp__law_size a)) (G__law_rows : FnA P w K mg base 3 a.f__law_rows ["_law_box_here", "_law_size_here"] (sp__law_rows a)) (G__law_draw : FnA P w K mg base 2 a.f__law_draw ["_law_box_here", "_law_many"] (sp__law_draw a)) (G__law_bent : FnA P w K mg base 3 a.f__law_bent ["_law_box_here", "_law_size_here", "_law_log"] (sp__law_bent a)) (G__law_far_size : FnA P w K mg base 3 a.f__law_far_size ["_law_box_here"] (sp__law_far_size a)) (G__law_strikes_right : FnA P w K mg base 6 a.f__law_strikes_right ["_law_size_here", "_law_log"] (sp__law_strikes_right a)) (G__law_mirror_right : FnA P w K mg base 5 a.f__law_mirror_right ["_law_size_here", "_law_log"] (sp__law_mirror_right a)) (G__law_blocks_right : FnA P w K mg base 6 a.f__law_blocks_right ["_law_size_here", "_law_log"] (sp__law_blocks_right a)) (G__law_range_right : FnA P w K mg base 6 a.f__law_range_right ["_law_size_here", "_law_log", "_law_low", "_law_high"] (sp__law_range_right a)) (G__law_operation_refused : FnA P w K mg base 7 a.f__law_operation_refused ["_law_way", "_law_size_here", "_law_log", "_law_low", "_law_high"] (sp__law_operation_refused a)) (G__law_size_refused : FnA P w K mg base 7 a.f__law_size_refused ["_law_way", "_law_size_here", "_law_log", "_law_low", "_law_high"] (sp__law_size_refused a)) : FnOk P w K mg base (L2N.CX P w) 8 a.f_law fd ["_law_script"] (spL K) := by
  refine FnOk_of F sc_law (fun vs H Q E h => by first | (obtain ⟨_, rfl, _⟩ := h; rfl) | (obtain ⟨_, _, rfl, _⟩ := h; rfl)) (fun cdv A outer s H vs Q E hr tk pz h => ?_)
  have hu := hr.units
  have hrH := L2H.roomH_of hr
  obtain ⟨p, ns, rfl, hp, k⟩ := h
  refine ⟨_, (pss_cons (ps_set (i := 1) sc_law.nd rfl (Or.inl rfl) (pe_callA G__law_box (Room.mono hr (by decide)) T.n__law_box tk (pa_cons (pv 0) pa_nil)))
      (pss_cons (ps_set (i := 2) sc_law.nd rfl (Or.inl rfl) (pe_callA G__law_size (Room.mono hr (by decide)) T.n__law_size tk (pa_cons (pv 1) pa_nil)))
      (pss_cons (ps_set (i := 3) sc_law.nd rfl (Or.inl rfl) (pe_callA G__law_rows (Room.mono hr (by decide)) T.n__law_rows tk (pa_cons (pv 1) (pa_cons (pv 2) pa_nil))))
      (pss_cons (ps_set (i := 4) sc_law.nd rfl (Or.inl rfl) (pe_op op_sub (pe_callA G__law_draw (Room.mono hr (by decide)) T.n__law_draw tk (pa_cons (pv 1) (pa_cons (pe_op o_add (pv 2) pe_int) pa_nil))) pe_int))
      (pss_cons (ps_set (i := 5) sc_law.nd rfl (Or.inl rfl) (pe_op op_sub (pe_callA G__law_draw (Room.mono hr (by decide)) T.n__law_draw tk (pa_cons (pv 1) (pa_cons (pe_op o_add (pv 2) pe_int) pa_nil))) pe_int))
      (pss_cons (ps_set (i := 6) sc_law.nd rfl (Or.inl rfl) (pe_callA G__law_bent (Room.mono hr (by decide)) T.n__law_bent tk (pa_cons (pv 1) (pa_cons (pv 2) (pa_cons (pv 3) pa_nil)))))
      (pss_cons (ps_set (i := 7) sc_law.nd rfl (Or.inl rfl) (pe_callA G__law_far_size (Room.mono hr (by decide)) T.n__law_far_size tk (pa_cons (pv 1) pa_nil)))
      (pss_cons (ps_if (PW.pt (pw_or (pt_not (pt_tru (pe_callA G__law_strikes_right (Room.mono hr (by decide)) T.n__law_strikes_right tk (pa_cons (pv 2) (pa_cons (pv 3) pa_nil))))) (pw_or1 (pt_not (pt_tru (pe_callA G__law_mirror_right (Room.mono hr (by decide)) T.n__law_mirror_right tk (pa_cons (pv 2) (pa_cons (pv 3) pa_nil)))))))) (pss_one (ps_ret pe_bl)) pss_nil)
      (pss_cons (ps_if (PW.pt (pw_or (pt_not (pt_tru (pe_callA G__law_blocks_right (Room.mono hr (by decide)) T.n__law_blocks_right tk (pa_cons (pv 2) (pa_cons (pv 3) pa_nil))))) (pw_or1 (pt_not (pt_tru (pe_callA G__law_range_right (Room.mono hr (by decide)) T.n__law_range_right tk (pa_cons (pv 2) (pa_cons (pv 3) (pa_cons (pv 4) (pa_cons (pv 5) pa_nil)))))))))) (pss_one (ps_ret pe_bl)) pss_nil)
      (pss_cons (ps_for pz rfl (pi_range1 rfl T.b_range (pa_cons pe_int pa_nil)) (pg_name (i := 8) sc_law.nd rfl (Or.inl rfl))
      (pss_cons (ps_if (pt_not (pt_tru (pe_callA G__law_operation_refused (Room.mono hr (by decide)) T.n__law_operation_refused tk (pa_cons (pv 8) (pa_cons (pv 2) (pa_cons (pv 6) (pa_cons (pv 4) (pa_cons (pv 5) pa_nil)))))))) (pss_one (ps_ret pe_bl)) pss_nil)
      (pss_one (ps_if (pt_not (pt_tru (pe_callA G__law_size_refused (Room.mono hr (by decide)) T.n__law_size_refused tk (pa_cons (pv 8) (pa_cons (pv 7) (pa_cons (pv 6) (pa_cons (pv 4) (pa_cons (pv 5) pa_nil)))))))) (pss_one (ps_ret pe_bl)) pss_nil))))
      (pss_one (ps_ret pe_bl)))))))))))), ?_⟩
  show (_ : Ends → L2.St → Hp → Prop) _ [some _, none, none, none, none, none, none, none, none] _
  try dsimp only [L2H.cxH, cxOf]
  walk_at "w"
  refine ⟨p, ns, rfl, hp, fun b q H1 hb B1 k1 => ?_⟩
  walk_at "w"
  refine ⟨b, q, rfl, B1, fun n H2 n0 n1 B2 k2 => ?_⟩
  walk_at "w"
  refine ⟨b, q, n, rfl, B2, n0, n1, fun l log H3 hl lb lq hl3 hok hlen B3 k3 => ?_⟩
  walk_at "w"
  refine ⟨b, q, _, rfl, B3, by omega, by omega, fun r1 H4 r10 r11 B4 k4 => ?_⟩
  walk_at "w"
  refine ⟨b, q, _, rfl, B4, by omega, by omega, fun r2 H5 r20 r21 B5 k5 => ?_⟩
  have hl5 : H5 l = some (.lst (log.map V.int)) := by walk_at "hp"
  walk_at "w"
  refine ⟨b, q, n, l, log, rfl, B5, n0, n1, hl5, by omega, lb, fun r bent H6 hr rb hr6 hbad hblen B6 k6 => ?_⟩
  have hl6 : H6 l = some (.lst (log.map V.int)) := by walk_at "hp"
  walk_at "w"
  refine ⟨b, q, rfl, B6, fun far H7 hfar B7 k7 => ?_⟩
  have hl7 : H7 l = some (.lst (log.map V.int)) := by walk_at "hp"
  have hr7 : H7 r = some (.lst (bent.map V.int)) := by walk_at "hp"
  walk_at "w"
  refine ⟨n, l, log, rfl, hl7, by omega, n0, n1, hok, fun H8 k8 => ?_⟩
  walk_at "w"
  refine ⟨n, l, log, rfl, k8.at0 hl7, by omega, n0, n1, hok, fun H9 k9 => ?_⟩
  walk_at "w"
  refine ⟨n, l, log, rfl, k9.at0 (k8.at0 hl7), by omega, n0, n1, hok, fun H10 k10 => ?_⟩
  walk_at "w"
  refine ⟨n, l, log, _, _, rfl, k10.at0 (k9.at0 (k8.at0 hl7)), by omega, n0, n1, hok, fun H11 k11 => ?_⟩
  have hr11 : H11 r = some (.lst (bent.map V.int)) := by walk_at "hp"
  clear hr6 hr7 hl3 hl5 hl6 hl7 k1 k2 k3 k4 k5 k6 k7 k8 k9 k10 k11
  walk_at "w"
  refine w_rng1 (n := 5) (by omega) (by omega) (fun i σ' H' => (∃ x, σ' = [some (.ref p), some (.ref b), some (.int n), some (.ref l), some (.int (r1 - 1)), some (.int (r2 - 1)), some (.ref r), some (.int far), x]) ∧ H' r = some (.lst (bent.map V.int))) ⟨⟨_, rfl⟩, hr11⟩ ?_ ?_
  · rintro i σ' H' hi ⟨⟨x, rfl⟩, hr'⟩
    walk_at "w"
    refine ⟨_, n, r, bent, _, _, rfl, hr', by omega, n0, n1, hbad, fun H12 k12 => ?_⟩
    walk_at "w"
    refine ⟨_, far, r, bent, _, _, rfl, k12.at0 hr', by omega, hfar, fun H13 k13 => ?_⟩
    walk_at "w"
    exact ⟨⟨_, rfl⟩, k13.at0 (k12.at0 hr')⟩
  · rintro σ' H' ⟨⟨x, rfl⟩, hr'⟩
    walk_at "w"
    exact k H'
/-- what the top has left -/
theorem all_mk {P : Program} {w : World} {K : PySem.W.Frag} {h : Heap} {mg : Str → Option Value} {fa : Addr} (X : K.In h) (G : h.Ns mainGlobals mg) (hfa : mg "law" = some (.ref fa))
    {f_check_size : Addr} {oc_check_size kV_check_size dc_check_size pm_check_size cd_check_size ct_check_size : Value} {od_check_size an_check_size : Option Addr} {sl_check_size : Array (Option Value)}
    {f_check_operation : Addr} {oc_check_operation kV_check_operation dc_check_operation pm_check_operation cd_check_operation ct_check_operation : Value} {od_check_operation an_check_operation : Option Addr} {sl_check_operation : Array (Option Value)}
    {f__check_operations : Addr} {oc__check_operations kV__check_operations dc__check_operations pm__check_operations cd__check_operations ct__check_operations : Value} {od__check_operations an__check_operations : Option Addr} {sl__check_operations : Array (Option Value)}
    {f__is_legal : Addr} {oc__is_legal kV__is_legal dc__is_legal pm__is_legal cd__is_legal ct__is_legal : Value} {od__is_legal an__is_legal : Option Addr} {sl__is_legal : Array (Option Value)}
    {f_first_illegal : Addr} {oc_first_illegal kV_first_illegal dc_first_illegal pm_first_illegal cd_first_illegal ct_first_illegal : Value} {od_first_illegal an_first_illegal : Option Addr} {sl_first_illegal : Array (Option Value)}
    {f_strikes : Addr} {oc_strikes kV_strikes dc_strikes pm_strikes cd_strikes ct_strikes : Value} {od_strikes an_strikes : Option Addr} {sl_strikes : Array (Option Value)}
    {f_mirror : Addr} {oc_mirror kV_mirror dc_mirror pm_mirror cd_mirror ct_mirror : Value} {od_mirror an_mirror : Option Addr} {sl_mirror : Array (Option Value)}
    {f_blocks : Addr} {oc_blocks kV_blocks dc_blocks pm_blocks cd_blocks ct_blocks : Value} {od_blocks an_blocks : Option Addr} {sl_blocks : Array (Option Value)}
    {f_block_part : Addr} {oc_block_part kV_block_part dc_block_part pm_block_part cd_block_part ct_block_part : Value} {od_block_part an_block_part : Option Addr} {sl_block_part : Array (Option Value)}
    {f__law_box : Addr} {oc__law_box kV__law_box dc__law_box pm__law_box cd__law_box ct__law_box : Value} {od__law_box an__law_box : Option Addr} {sl__law_box : Array (Option Value)}
    {f__law_draw : Addr} {oc__law_draw kV__law_draw dc__law_draw pm__law_draw cd__law_draw ct__law_draw : Value} {od__law_draw an__law_draw : Option Addr} {sl__law_draw : Array (Option Value)}
    {f__law_is : Addr} {oc__law_is kV__law_is dc__law_is pm__law_is cd__law_is ct__law_is : Value} {od__law_is an__law_is : Option Addr} {sl__law_is : Array (Option Value)}
    {f__law_integers : Addr} {oc__law_integers kV__law_integers dc__law_integers pm__law_integers cd__law_integers ct__law_integers : Value} {od__law_integers an__law_integers : Option Addr} {sl__law_integers : Array (Option Value)}
    {f__law_size : Addr} {oc__law_size kV__law_size dc__law_size pm__law_size cd__law_size ct__law_size : Value} {od__law_size an__law_size : Option Addr} {sl__law_size : Array (Option Value)}
    {f__law_far_size : Addr} {oc__law_far_size kV__law_far_size dc__law_far_size pm__law_far_size cd__law_far_size ct__law_far_size : Value} {od__law_far_size an__law_far_size : Option Addr} {sl__law_far_size : Array (Option Value)}
    {f__law_rows : Addr} {oc__law_rows kV__law_rows dc__law_rows pm__law_rows cd__law_rows ct__law_rows : Value} {od__law_rows an__law_rows : Option Addr} {sl__law_rows : Array (Option Value)}
    {f__law_bent : Addr} {oc__law_bent kV__law_bent dc__law_bent pm__law_bent cd__law_bent ct__law_bent : Value} {od__law_bent an__law_bent : Option Addr} {sl__law_bent : Array (Option Value)}
    {f__law_struck : Addr} {oc__law_struck kV__law_struck dc__law_struck pm__law_struck cd__law_struck ct__law_struck : Value} {od__law_struck an__law_struck : Option Addr} {sl__law_struck : Array (Option Value)}
    {f__law_most_kept : Addr} {oc__law_most_kept kV__law_most_kept dc__law_most_kept pm__law_most_kept cd__law_most_kept ct__law_most_kept : Value} {od__law_most_kept an__law_most_kept : Option Addr} {sl__law_most_kept : Array (Option Value)}
    {f__law_strikes_right : Addr} {oc__law_strikes_right kV__law_strikes_right dc__law_strikes_right pm__law_strikes_right cd__law_strikes_right ct__law_strikes_right : Value} {od__law_strikes_right an__law_strikes_right : Option Addr} {sl__law_strikes_right : Array (Option Value)}
    {f__law_turned : Addr} {oc__law_turned kV__law_turned dc__law_turned pm__law_turned cd__law_turned ct__law_turned : Value} {od__law_turned an__law_turned : Option Addr} {sl__law_turned : Array (Option Value)}
    {f__law_mirror_right : Addr} {oc__law_mirror_right kV__law_mirror_right dc__law_mirror_right pm__law_mirror_right cd__law_mirror_right ct__law_mirror_right : Value} {od__law_mirror_right an__law_mirror_right : Option Addr} {sl__law_mirror_right : Array (Option Value)}
    {f__law_ranges : Addr} {oc__law_ranges kV__law_ranges dc__law_ranges pm__law_ranges cd__law_ranges ct__law_ranges : Value} {od__law_ranges an__law_ranges : Option Addr} {sl__law_ranges : Array (Option Value)}
    {f__law_part_right : Addr} {oc__law_part_right kV__law_part_right dc__law_part_right pm__law_part_right cd__law_part_right ct__law_part_right : Value} {od__law_part_right an__law_part_right : Option Addr} {sl__law_part_right : Array (Option Value)}
    {f__law_blocks_right : Addr} {oc__law_blocks_right kV__law_blocks_right dc__law_blocks_right pm__law_blocks_right cd__law_blocks_right ct__law_blocks_right : Value} {od__law_blocks_right an__law_blocks_right : Option Addr} {sl__law_blocks_right : Array (Option Value)}
    {f__law_range_right : Addr} {oc__law_range_right kV__law_range_right dc__law_range_right pm__law_range_right cd__law_range_right ct__law_range_right : Value} {od__law_range_right an__law_range_right : Option Addr} {sl__law_range_right : Array (Option Value)}
    {f__law_asked : Addr} {oc__law_asked kV__law_asked dc__law_asked pm__law_asked cd__law_asked ct__law_asked : Value} {od__law_asked an__law_asked : Option Addr} {sl__law_asked : Array (Option Value)}
    {f__law_operation_refused : Addr} {oc__law_operation_refused kV__law_operation_refused dc__law_operation_refused pm__law_operation_refused cd__law_operation_refused ct__law_operation_refused : Value} {od__law_operation_refused an__law_operation_refused : Option Addr} {sl__law_operation_refused : Array (Option Value)}
    {f__law_size_refused : Addr} {oc__law_size_refused kV__law_size_refused dc__law_size_refused pm__law_size_refused cd__law_size_refused ct__law_size_refused : Value} {od__law_size_refused an__law_size_refused : Option Addr} {sl__law_size_refused : Array (Option Value)}
    {f_law : Addr} {oc_law kV_law dc_law pm_law cd_law ct_law : Value} {od_law an_law : Option Addr} {sl_law : Array (Option Value)}
    {LinkError : Addr}
    {LogError : Addr}
    {BadOperation : Addr} {i_BadOperation : Addr}
    {Illegal : Addr} {i_Illegal : Addr}
    {Refused : Addr} {i_Refused : Addr}
    {BadSize : Addr} {i_BadSize : Addr}
    {BadRange : Addr} {i_BadRange : Addr}
    {t_MOST_NODES : Tok}
    (a_LinkError : PySem.W.nsIn K mainGlobals "LinkError" = some (some (.ref LinkError)))
    (a_LogError : PySem.W.nsIn K mainGlobals "LogError" = some (some (.ref LogError)))
    (a_BadOperation : PySem.W.nsIn K mainGlobals "BadOperation" = some (some (.ref BadOperation)))
    (a_Illegal : PySem.W.nsIn K mainGlobals "Illegal" = some (some (.ref Illegal)))
    (a_Refused : PySem.W.nsIn K mainGlobals "Refused" = some (some (.ref Refused)))
    (a_BadSize : PySem.W.nsIn K mainGlobals "BadSize" = some (some (.ref BadSize)))
    (a_BadRange : PySem.W.nsIn K mainGlobals "BadRange" = some (some (.ref BadRange)))
    (d_LinkError : DC K LinkError)
    (d_LogError : DC K LogError)
    (d_BadOperation : DC K BadOperation)
    (d_Illegal : DC K Illegal)
    (d_Refused : DC K Refused)
    (d_BadSize : DC K BadSize)
    (d_BadRange : DC K BadRange)
    (x_BadOperation : LkX.ExcTxt P K BadOperation i_BadOperation ["operation", "index"])
    (e_BadOperation : ExcC K BadOperation ∧ XfC K BadOperation)
    (s_BadOperation_LinkError : PySem.W.subIn K (.ref BadOperation) (.ref LinkError) = some true)
    (s_BadOperation_LogError : PySem.W.subIn K (.ref BadOperation) (.ref LogError) = some true)
    (s_BadOperation_BadOperation : PySem.W.subIn K (.ref BadOperation) (.ref BadOperation) = some true)
    (s_BadOperation_Illegal : PySem.W.subIn K (.ref BadOperation) (.ref Illegal) = some false)
    (s_BadOperation_Refused : PySem.W.subIn K (.ref BadOperation) (.ref Refused) = some false)
    (s_BadOperation_BadSize : PySem.W.subIn K (.ref BadOperation) (.ref BadSize) = some false)
    (s_BadOperation_BadRange : PySem.W.subIn K (.ref BadOperation) (.ref BadRange) = some false)
    (x_Illegal : LkX.ExcTxt P K Illegal i_Illegal ["operation", "index"])
    (e_Illegal : ExcC K Illegal ∧ XfC K Illegal)
    (s_Illegal_LinkError : PySem.W.subIn K (.ref Illegal) (.ref LinkError) = some true)
    (s_Illegal_LogError : PySem.W.subIn K (.ref Illegal) (.ref LogError) = some true)
    (s_Illegal_BadOperation : PySem.W.subIn K (.ref Illegal) (.ref BadOperation) = some false)
    (s_Illegal_Illegal : PySem.W.subIn K (.ref Illegal) (.ref Illegal) = some true)
    (s_Illegal_Refused : PySem.W.subIn K (.ref Illegal) (.ref Refused) = some false)
    (s_Illegal_BadSize : PySem.W.subIn K (.ref Illegal) (.ref BadSize) = some false)
    (s_Illegal_BadRange : PySem.W.subIn K (.ref Illegal) (.ref BadRange) = some false)
    (x_Refused : LkX.ExcTxt P K Refused i_Refused ["operation", "index", "refusing"])
    (e_Refused : ExcC K Refused ∧ XfC K Refused)
    (s_Refused_LinkError : PySem.W.subIn K (.ref Refused) (.ref LinkError) = some true)
    (s_Refused_LogError : PySem.W.subIn K (.ref Refused) (.ref LogError) = some true)
    (s_Refused_BadOperation : PySem.W.subIn K (.ref Refused) (.ref BadOperation) = some false)
    (s_Refused_Illegal : PySem.W.subIn K (.ref Refused) (.ref Illegal) = some false)
    (s_Refused_Refused : PySem.W.subIn K (.ref Refused) (.ref Refused) = some true)
    (s_Refused_BadSize : PySem.W.subIn K (.ref Refused) (.ref BadSize) = some false)
    (s_Refused_BadRange : PySem.W.subIn K (.ref Refused) (.ref BadRange) = some false)
    (x_BadSize : LkX.ExcTxt P K BadSize i_BadSize ["size"])
    (e_BadSize : ExcC K BadSize ∧ XfC K BadSize)
    (s_BadSize_LinkError : PySem.W.subIn K (.ref BadSize) (.ref LinkError) = some true)
    (s_BadSize_LogError : PySem.W.subIn K (.ref BadSize) (.ref LogError) = some false)
    (s_BadSize_BadOperation : PySem.W.subIn K (.ref BadSize) (.ref BadOperation) = some false)
    (s_BadSize_Illegal : PySem.W.subIn K (.ref BadSize) (.ref Illegal) = some false)
    (s_BadSize_Refused : PySem.W.subIn K (.ref BadSize) (.ref Refused) = some false)
    (s_BadSize_BadSize : PySem.W.subIn K (.ref BadSize) (.ref BadSize) = some true)
    (s_BadSize_BadRange : PySem.W.subIn K (.ref BadSize) (.ref BadRange) = some false)
    (x_BadRange : LkX.ExcTxt P K BadRange i_BadRange ["low", "high"])
    (e_BadRange : ExcC K BadRange ∧ XfC K BadRange)
    (s_BadRange_LinkError : PySem.W.subIn K (.ref BadRange) (.ref LinkError) = some true)
    (s_BadRange_LogError : PySem.W.subIn K (.ref BadRange) (.ref LogError) = some false)
    (s_BadRange_BadOperation : PySem.W.subIn K (.ref BadRange) (.ref BadOperation) = some false)
    (s_BadRange_Illegal : PySem.W.subIn K (.ref BadRange) (.ref Illegal) = some false)
    (s_BadRange_Refused : PySem.W.subIn K (.ref BadRange) (.ref Refused) = some false)
    (s_BadRange_BadSize : PySem.W.subIn K (.ref BadRange) (.ref BadSize) = some false)
    (s_BadRange_BadRange : PySem.W.subIn K (.ref BadRange) (.ref BadRange) = some true)
    (a_check_size : PySem.W.nsIn K mainGlobals "check_size" = some (some (.ref f_check_size))) (l_check_size : K.lookup f_check_size = some ⟨oc_check_size, od_check_size, .func (PySem.W.fnOf "check_size" "check_size" (defArgs s_check_size) (defBody s_check_size) (defScope s_check_size) .none kV_check_size dc_check_size pm_check_size an_check_size cd_check_size ct_check_size), sl_check_size⟩) (c_check_size : PySem.W.codeIn K cd_check_size "check_size" = true) (k_check_size : PySem.W.keepIn K (.ref f_check_size) = true)
    (a_check_operation : PySem.W.nsIn K mainGlobals "check_operation" = some (some (.ref f_check_operation))) (l_check_operation : K.lookup f_check_operation = some ⟨oc_check_operation, od_check_operation, .func (PySem.W.fnOf "check_operation" "check_operation" (defArgs s_check_operation) (defBody s_check_operation) (defScope s_check_operation) .none kV_check_operation dc_check_operation pm_check_operation an_check_operation cd_check_operation ct_check_operation), sl_check_operation⟩) (c_check_operation : PySem.W.codeIn K cd_check_operation "check_operation" = true) (k_check_operation : PySem.W.keepIn K (.ref f_check_operation) = true)
    (a__check_operations : PySem.W.nsIn K mainGlobals "_check_operations" = some (some (.ref f__check_operations))) (l__check_operations : K.lookup f__check_operations = some ⟨oc__check_operations, od__check_operations, .func (PySem.W.fnOf "_check_operations" "_check_operations" (defArgs s__check_operations) (defBody s__check_operations) (defScope s__check_operations) .none kV__check_operations dc__check_operations pm__check_operations an__check_operations cd__check_operations ct__check_operations), sl__check_operations⟩) (c__check_operations : PySem.W.codeIn K cd__check_operations "_check_operations" = true) (k__check_operations : PySem.W.keepIn K (.ref f__check_operations) = true)
    (a__is_legal : PySem.W.nsIn K mainGlobals "_is_legal" = some (some (.ref f__is_legal))) (l__is_legal : K.lookup f__is_legal = some ⟨oc__is_legal, od__is_legal, .func (PySem.W.fnOf "_is_legal" "_is_legal" (defArgs s__is_legal) (defBody s__is_legal) (defScope s__is_legal) .none kV__is_legal dc__is_legal pm__is_legal an__is_legal cd__is_legal ct__is_legal), sl__is_legal⟩) (c__is_legal : PySem.W.codeIn K cd__is_legal "_is_legal" = true) (k__is_legal : PySem.W.keepIn K (.ref f__is_legal) = true)
    (a_first_illegal : PySem.W.nsIn K mainGlobals "first_illegal" = some (some (.ref f_first_illegal))) (l_first_illegal : K.lookup f_first_illegal = some ⟨oc_first_illegal, od_first_illegal, .func (PySem.W.fnOf "first_illegal" "first_illegal" (defArgs s_first_illegal) (defBody s_first_illegal) (defScope s_first_illegal) .none kV_first_illegal dc_first_illegal pm_first_illegal an_first_illegal cd_first_illegal ct_first_illegal), sl_first_illegal⟩) (c_first_illegal : PySem.W.codeIn K cd_first_illegal "first_illegal" = true) (k_first_illegal : PySem.W.keepIn K (.ref f_first_illegal) = true)
    (a_strikes : PySem.W.nsIn K mainGlobals "strikes" = some (some (.ref f_strikes))) (l_strikes : K.lookup f_strikes = some ⟨oc_strikes, od_strikes, .func (PySem.W.fnOf "strikes" "strikes" (defArgs s_strikes) (defBody s_strikes) (defScope s_strikes) .none kV_strikes dc_strikes pm_strikes an_strikes cd_strikes ct_strikes), sl_strikes⟩) (c_strikes : PySem.W.codeIn K cd_strikes "strikes" = true) (k_strikes : PySem.W.keepIn K (.ref f_strikes) = true)
    (a_mirror : PySem.W.nsIn K mainGlobals "mirror" = some (some (.ref f_mirror))) (l_mirror : K.lookup f_mirror = some ⟨oc_mirror, od_mirror, .func (PySem.W.fnOf "mirror" "mirror" (defArgs s_mirror) (defBody s_mirror) (defScope s_mirror) .none kV_mirror dc_mirror pm_mirror an_mirror cd_mirror ct_mirror), sl_mirror⟩) (c_mirror : PySem.W.codeIn K cd_mirror "mirror" = true) (k_mirror : PySem.W.keepIn K (.ref f_mirror) = true)
    (a_blocks : PySem.W.nsIn K mainGlobals "blocks" = some (some (.ref f_blocks))) (l_blocks : K.lookup f_blocks = some ⟨oc_blocks, od_blocks, .func (PySem.W.fnOf "blocks" "blocks" (defArgs s_blocks) (defBody s_blocks) (defScope s_blocks) .none kV_blocks dc_blocks pm_blocks an_blocks cd_blocks ct_blocks), sl_blocks⟩) (c_blocks : PySem.W.codeIn K cd_blocks "blocks" = true) (k_blocks : PySem.W.keepIn K (.ref f_blocks) = true)
    (a_block_part : PySem.W.nsIn K mainGlobals "block_part" = some (some (.ref f_block_part))) (l_block_part : K.lookup f_block_part = some ⟨oc_block_part, od_block_part, .func (PySem.W.fnOf "block_part" "block_part" (defArgs s_block_part) (defBody s_block_part) (defScope s_block_part) .none kV_block_part dc_block_part pm_block_part an_block_part cd_block_part ct_block_part), sl_block_part⟩) (c_block_part : PySem.W.codeIn K cd_block_part "block_part" = true) (k_block_part : PySem.W.keepIn K (.ref f_block_part) = true)
    (a__law_box : PySem.W.nsIn K mainGlobals "_law_box" = some (some (.ref f__law_box))) (l__law_box : K.lookup f__law_box = some ⟨oc__law_box, od__law_box, .func (PySem.W.fnOf "_law_box" "_law_box" (defArgs s__law_box) (defBody s__law_box) (defScope s__law_box) .none kV__law_box dc__law_box pm__law_box an__law_box cd__law_box ct__law_box), sl__law_box⟩) (c__law_box : PySem.W.codeIn K cd__law_box "_law_box" = true) (k__law_box : PySem.W.keepIn K (.ref f__law_box) = true)
    (a__law_draw : PySem.W.nsIn K mainGlobals "_law_draw" = some (some (.ref f__law_draw))) (l__law_draw : K.lookup f__law_draw = some ⟨oc__law_draw, od__law_draw, .func (PySem.W.fnOf "_law_draw" "_law_draw" (defArgs s__law_draw) (defBody s__law_draw) (defScope s__law_draw) .none kV__law_draw dc__law_draw pm__law_draw an__law_draw cd__law_draw ct__law_draw), sl__law_draw⟩) (c__law_draw : PySem.W.codeIn K cd__law_draw "_law_draw" = true) (k__law_draw : PySem.W.keepIn K (.ref f__law_draw) = true)
    (a__law_is : PySem.W.nsIn K mainGlobals "_law_is" = some (some (.ref f__law_is))) (l__law_is : K.lookup f__law_is = some ⟨oc__law_is, od__law_is, .func (PySem.W.fnOf "_law_is" "_law_is" (defArgs s__law_is) (defBody s__law_is) (defScope s__law_is) .none kV__law_is dc__law_is pm__law_is an__law_is cd__law_is ct__law_is), sl__law_is⟩) (c__law_is : PySem.W.codeIn K cd__law_is "_law_is" = true) (k__law_is : PySem.W.keepIn K (.ref f__law_is) = true)
    (a__law_integers : PySem.W.nsIn K mainGlobals "_law_integers" = some (some (.ref f__law_integers))) (l__law_integers : K.lookup f__law_integers = some ⟨oc__law_integers, od__law_integers, .func (PySem.W.fnOf "_law_integers" "_law_integers" (defArgs s__law_integers) (defBody s__law_integers) (defScope s__law_integers) .none kV__law_integers dc__law_integers pm__law_integers an__law_integers cd__law_integers ct__law_integers), sl__law_integers⟩) (c__law_integers : PySem.W.codeIn K cd__law_integers "_law_integers" = true) (k__law_integers : PySem.W.keepIn K (.ref f__law_integers) = true)
    (a__law_size : PySem.W.nsIn K mainGlobals "_law_size" = some (some (.ref f__law_size))) (l__law_size : K.lookup f__law_size = some ⟨oc__law_size, od__law_size, .func (PySem.W.fnOf "_law_size" "_law_size" (defArgs s__law_size) (defBody s__law_size) (defScope s__law_size) .none kV__law_size dc__law_size pm__law_size an__law_size cd__law_size ct__law_size), sl__law_size⟩) (c__law_size : PySem.W.codeIn K cd__law_size "_law_size" = true) (k__law_size : PySem.W.keepIn K (.ref f__law_size) = true)
    (a__law_far_size : PySem.W.nsIn K mainGlobals "_law_far_size" = some (some (.ref f__law_far_size))) (l__law_far_size : K.lookup f__law_far_size = some ⟨oc__law_far_size, od__law_far_size, .func (PySem.W.fnOf "_law_far_size" "_law_far_size" (defArgs s__law_far_size) (defBody s__law_far_size) (defScope s__law_far_size) .none kV__law_far_size dc__law_far_size pm__law_far_size an__law_far_size cd__law_far_size ct__law_far_size), sl__law_far_size⟩) (c__law_far_size : PySem.W.codeIn K cd__law_far_size "_law_far_size" = true) (k__law_far_size : PySem.W.keepIn K (.ref f__law_far_size) = true)
    (a__law_rows : PySem.W.nsIn K mainGlobals "_law_rows" = some (some (.ref f__law_rows))) (l__law_rows : K.lookup f__law_rows = some ⟨oc__law_rows, od__law_rows, .func (PySem.W.fnOf "_law_rows" "_law_rows" (defArgs s__law_rows) (defBody s__law_rows) (defScope s__law_rows) .none kV__law_rows dc__law_rows pm__law_rows an__law_rows cd__law_rows ct__law_rows), sl__law_rows⟩) (c__law_rows : PySem.W.codeIn K cd__law_rows "_law_rows" = true) (k__law_rows : PySem.W.keepIn K (.ref f__law_rows) = true)
    (a__law_bent : PySem.W.nsIn K mainGlobals "_law_bent" = some (some (.ref f__law_bent))) (l__law_bent : K.lookup f__law_bent = some ⟨oc__law_bent, od__law_bent, .func (PySem.W.fnOf "_law_bent" "_law_bent" (defArgs s__law_bent) (defBody s__law_bent) (defScope s__law_bent) .none kV__law_bent dc__law_bent pm__law_bent an__law_bent cd__law_bent ct__law_bent), sl__law_bent⟩) (c__law_bent : PySem.W.codeIn K cd__law_bent "_law_bent" = true) (k__law_bent : PySem.W.keepIn K (.ref f__law_bent) = true)
    (a__law_struck : PySem.W.nsIn K mainGlobals "_law_struck" = some (some (.ref f__law_struck))) (l__law_struck : K.lookup f__law_struck = some ⟨oc__law_struck, od__law_struck, .func (PySem.W.fnOf "_law_struck" "_law_struck" (defArgs s__law_struck) (defBody s__law_struck) (defScope s__law_struck) .none kV__law_struck dc__law_struck pm__law_struck an__law_struck cd__law_struck ct__law_struck), sl__law_struck⟩) (c__law_struck : PySem.W.codeIn K cd__law_struck "_law_struck" = true) (k__law_struck : PySem.W.keepIn K (.ref f__law_struck) = true)
    (a__law_most_kept : PySem.W.nsIn K mainGlobals "_law_most_kept" = some (some (.ref f__law_most_kept))) (l__law_most_kept : K.lookup f__law_most_kept = some ⟨oc__law_most_kept, od__law_most_kept, .func (PySem.W.fnOf "_law_most_kept" "_law_most_kept" (defArgs s__law_most_kept) (defBody s__law_most_kept) (defScope s__law_most_kept) .none kV__law_most_kept dc__law_most_kept pm__law_most_kept an__law_most_kept cd__law_most_kept ct__law_most_kept), sl__law_most_kept⟩) (c__law_most_kept : PySem.W.codeIn K cd__law_most_kept "_law_most_kept" = true) (k__law_most_kept : PySem.W.keepIn K (.ref f__law_most_kept) = true)
    (a__law_strikes_right : PySem.W.nsIn K mainGlobals "_law_strikes_right" = some (some (.ref f__law_strikes_right))) (l__law_strikes_right : K.lookup f__law_strikes_right = some ⟨oc__law_strikes_right, od__law_strikes_right, .func (PySem.W.fnOf "_law_strikes_right" "_law_strikes_right" (defArgs s__law_strikes_right) (defBody s__law_strikes_right) (defScope s__law_strikes_right) .none kV__law_strikes_right dc__law_strikes_right pm__law_strikes_right an__law_strikes_right cd__law_strikes_right ct__law_strikes_right), sl__law_strikes_right⟩) (c__law_strikes_right : PySem.W.codeIn K cd__law_strikes_right "_law_strikes_right" = true) (k__law_strikes_right : PySem.W.keepIn K (.ref f__law_strikes_right) = true)
    (a__law_turned : PySem.W.nsIn K mainGlobals "_law_turned" = some (some (.ref f__law_turned))) (l__law_turned : K.lookup f__law_turned = some ⟨oc__law_turned, od__law_turned, .func (PySem.W.fnOf "_law_turned" "_law_turned" (defArgs s__law_turned) (defBody s__law_turned) (defScope s__law_turned) .none kV__law_turned dc__law_turned pm__law_turned an__law_turned cd__law_turned ct__law_turned), sl__law_turned⟩) (c__law_turned : PySem.W.codeIn K cd__law_turned "_law_turned" = true) (k__law_turned : PySem.W.keepIn K (.ref f__law_turned) = true)
    (a__law_mirror_right : PySem.W.nsIn K mainGlobals "_law_mirror_right" = some (some (.ref f__law_mirror_right))) (l__law_mirror_right : K.lookup f__law_mirror_right = some ⟨oc__law_mirror_right, od__law_mirror_right, .func (PySem.W.fnOf "_law_mirror_right" "_law_mirror_right" (defArgs s__law_mirror_right) (defBody s__law_mirror_right) (defScope s__law_mirror_right) .none kV__law_mirror_right dc__law_mirror_right pm__law_mirror_right an__law_mirror_right cd__law_mirror_right ct__law_mirror_right), sl__law_mirror_right⟩) (c__law_mirror_right : PySem.W.codeIn K cd__law_mirror_right "_law_mirror_right" = true) (k__law_mirror_right : PySem.W.keepIn K (.ref f__law_mirror_right) = true)
    (a__law_ranges : PySem.W.nsIn K mainGlobals "_law_ranges" = some (some (.ref f__law_ranges))) (l__law_ranges : K.lookup f__law_ranges = some ⟨oc__law_ranges, od__law_ranges, .func (PySem.W.fnOf "_law_ranges" "_law_ranges" (defArgs s__law_ranges) (defBody s__law_ranges) (defScope s__law_ranges) .none kV__law_ranges dc__law_ranges pm__law_ranges an__law_ranges cd__law_ranges ct__law_ranges), sl__law_ranges⟩) (c__law_ranges : PySem.W.codeIn K cd__law_ranges "_law_ranges" = true) (k__law_ranges : PySem.W.keepIn K (.ref f__law_ranges) = true)
    (a__law_part_right : PySem.W.nsIn K mainGlobals "_law_part_right" = some (some (.ref f__law_part_right))) (l__law_part_right : K.lookup f__law_part_right = some ⟨oc__law_part_right, od__law_part_right, .func (PySem.W.fnOf "_law_part_right" "_law_part_right" (defArgs s__law_part_right) (defBody s__law_part_right) (defScope s__law_part_right) .none kV__law_part_right dc__law_part_right pm__law_part_right an__law_part_right cd__law_part_right ct__law_part_right), sl__law_part_right⟩) (c__law_part_right : PySem.W.codeIn K cd__law_part_right "_law_part_right" = true) (k__law_part_right : PySem.W.keepIn K (.ref f__law_part_right) = true)
    (a__law_blocks_right : PySem.W.nsIn K mainGlobals "_law_blocks_right" = some (some (.ref f__law_blocks_right))) (l__law_blocks_right : K.lookup f__law_blocks_right = some ⟨oc__law_blocks_right, od__law_blocks_right, .func (PySem.W.fnOf "_law_blocks_right" "_law_blocks_right" (defArgs s__law_blocks_right) (defBody s__law_blocks_right) (defScope s__law_blocks_right) .none kV__law_blocks_right dc__law_blocks_right pm__law_blocks_right an__law_blocks_right cd__law_blocks_right ct__law_blocks_right), sl__law_blocks_right⟩) (c__law_blocks_right : PySem.W.codeIn K cd__law_blocks_right "_law_blocks_right" = true) (k__law_blocks_right : PySem.W.keepIn K (.ref f__law_blocks_right) = true)
    (a__law_range_right : PySem.W.nsIn K mainGlobals "_law_range_right" = some (some (.ref f__law_range_right))) (l__law_range_right : K.lookup f__law_range_right = some ⟨oc__law_range_right, od__law_range_right, .func (PySem.W.fnOf "_law_range_right" "_law_range_right" (defArgs s__law_range_right) (defBody s__law_range_right) (defScope s__law_range_right) .none kV__law_range_right dc__law_range_right pm__law_range_right an__law_range_right cd__law_range_right ct__law_range_right), sl__law_range_right⟩) (c__law_range_right : PySem.W.codeIn K cd__law_range_right "_law_range_right" = true) (k__law_range_right : PySem.W.keepIn K (.ref f__law_range_right) = true)
    (a__law_asked : PySem.W.nsIn K mainGlobals "_law_asked" = some (some (.ref f__law_asked))) (l__law_asked : K.lookup f__law_asked = some ⟨oc__law_asked, od__law_asked, .func (PySem.W.fnOf "_law_asked" "_law_asked" (defArgs s__law_asked) (defBody s__law_asked) (defScope s__law_asked) .none kV__law_asked dc__law_asked pm__law_asked an__law_asked cd__law_asked ct__law_asked), sl__law_asked⟩) (c__law_asked : PySem.W.codeIn K cd__law_asked "_law_asked" = true) (k__law_asked : PySem.W.keepIn K (.ref f__law_asked) = true)
    (a__law_operation_refused : PySem.W.nsIn K mainGlobals "_law_operation_refused" = some (some (.ref f__law_operation_refused))) (l__law_operation_refused : K.lookup f__law_operation_refused = some ⟨oc__law_operation_refused, od__law_operation_refused, .func (PySem.W.fnOf "_law_operation_refused" "_law_operation_refused" (defArgs s__law_operation_refused) (defBody s__law_operation_refused) (defScope s__law_operation_refused) .none kV__law_operation_refused dc__law_operation_refused pm__law_operation_refused an__law_operation_refused cd__law_operation_refused ct__law_operation_refused), sl__law_operation_refused⟩) (c__law_operation_refused : PySem.W.codeIn K cd__law_operation_refused "_law_operation_refused" = true) (k__law_operation_refused : PySem.W.keepIn K (.ref f__law_operation_refused) = true)
    (a__law_size_refused : PySem.W.nsIn K mainGlobals "_law_size_refused" = some (some (.ref f__law_size_refused))) (l__law_size_refused : K.lookup f__law_size_refused = some ⟨oc__law_size_refused, od__law_size_refused, .func (PySem.W.fnOf "_law_size_refused" "_law_size_refused" (defArgs s__law_size_refused) (defBody s__law_size_refused) (defScope s__law_size_refused) .none kV__law_size_refused dc__law_size_refused pm__law_size_refused an__law_size_refused cd__law_size_refused ct__law_size_refused), sl__law_size_refused⟩) (c__law_size_refused : PySem.W.codeIn K cd__law_size_refused "_law_size_refused" = true) (k__law_size_refused : PySem.W.keepIn K (.ref f__law_size_refused) = true)
    (a_law : PySem.W.nsIn K mainGlobals "law" = some (some (.ref f_law))) (l_law : K.lookup f_law = some ⟨oc_law, od_law, .func (PySem.W.fnOf "law" "law" (defArgs s_law) (defBody s_law) (defScope s_law) .none kV_law dc_law pm_law an_law cd_law ct_law), sl_law⟩) (c_law : PySem.W.codeIn K cd_law "law" = true) (k_law : PySem.W.keepIn K (.ref f_law) = true)
    (b_ValueError : PySem.W.nsIn K mainGlobals "ValueError" = some none)
    (b_enumerate : PySem.W.nsIn K mainGlobals "enumerate" = some none)
    (b_range : PySem.W.nsIn K mainGlobals "range" = some none)
    (b_list : PySem.W.nsIn K mainGlobals "list" = some none)
    (b_int : PySem.W.nsIn K mainGlobals "int" = some none)
    (b_isinstance : PySem.W.nsIn K mainGlobals "isinstance" = some none)
    (b_len : PySem.W.nsIn K mainGlobals "len" = some none)
    (b_abs : PySem.W.nsIn K mainGlobals "abs" = some none)
    (b_bool : PySem.W.nsIn K mainGlobals "bool" = some none)
    (b_max : PySem.W.nsIn K mainGlobals "max" = some none)
    (b_super : PySem.W.nsIn K mainGlobals "super" = some none)
    (b_tuple : PySem.W.nsIn K mainGlobals "tuple" = some none)
    (k_MOST_NODES : PySem.W.nsIn K mainGlobals "MOST_NODES" = some (some (.int 60 t_MOST_NODES)))
    : ∃ fd : FuncData, (∀ (s : Shared) (v : Value), BindsTo s fd ⟨[v], []⟩ [("_law_script", v)]) ∧ ∀ base : Heap, K.In base → base.Ns mainGlobals mg → FnOk P w K mg base (L2N.CX P w) 8 fa fd ["_law_script"] (spL K) := by
  have e := hfa.symm.trans (PySem.W.mg_of X G a_law)
  cases e
  have m_check_size := nm_mk (st := s_check_size) X G a_check_size l_check_size c_check_size k_check_size
  have m_check_operation := nm_mk (st := s_check_operation) X G a_check_operation l_check_operation c_check_operation k_check_operation
  have m__check_operations := nm_mk (st := s__check_operations) X G a__check_operations l__check_operations c__check_operations k__check_operations
  have m__is_legal := nm_mk (st := s__is_legal) X G a__is_legal l__is_legal c__is_legal k__is_legal
  have m_first_illegal := nm_mk (st := s_first_illegal) X G a_first_illegal l_first_illegal c_first_illegal k_first_illegal
  have m_strikes := nm_mk (st := s_strikes) X G a_strikes l_strikes c_strikes k_strikes
  have m_mirror := nm_mk (st := s_mirror) X G a_mirror l_mirror c_mirror k_mirror
  have m_blocks := nm_mk (st := s_blocks) X G a_blocks l_blocks c_blocks k_blocks
  have m_block_part := nm_mk (st := s_block_part) X G a_block_part l_block_part c_block_part k_block_part
  have m__law_box := nm_mk (st := s__law_box) X G a__law_box l__law_box c__law_box k__law_box
  have m__law_draw := nm_mk (st := s__law_draw) X G a__law_draw l__law_draw c__law_draw k__law_draw
  have m__law_is := nm_mk (st := s__law_is) X G a__law_is l__law_is c__law_is k__law_is
  have m__law_integers := nm_mk (st := s__law_integers) X G a__law_integers l__law_integers c__law_integers k__law_integers
  have m__law_size := nm_mk (st := s__law_size) X G a__law_size l__law_size c__law_size k__law_size
  have m__law_far_size := nm_mk (st := s__law_far_size) X G a__law_far_size l__law_far_size c__law_far_size k__law_far_size
  have m__law_rows := nm_mk (st := s__law_rows) X G a__law_rows l__law_rows c__law_rows k__law_rows
  have m__law_bent := nm_mk (st := s__law_bent) X G a__law_bent l__law_bent c__law_bent k__law_bent
  have m__law_struck := nm_mk (st := s__law_struck) X G a__law_struck l__law_struck c__law_struck k__law_struck
  have m__law_most_kept := nm_mk (st := s__law_most_kept) X G a__law_most_kept l__law_most_kept c__law_most_kept k__law_most_kept
  have m__law_strikes_right := nm_mk (st := s__law_strikes_right) X G a__law_strikes_right l__law_strikes_right c__law_strikes_right k__law_strikes_right
  have m__law_turned := nm_mk (st := s__law_turned) X G a__law_turned l__law_turned c__law_turned k__law_turned
  have m__law_mirror_right := nm_mk (st := s__law_mirror_right) X G a__law_mirror_right l__law_mirror_right c__law_mirror_right k__law_mirror_right
  have m__law_ranges := nm_mk (st := s__law_ranges) X G a__law_ranges l__law_ranges c__law_ranges k__law_ranges
  have m__law_part_right := nm_mk (st := s__law_part_right) X G a__law_part_right l__law_part_right c__law_part_right k__law_part_right
  have m__law_blocks_right := nm_mk (st := s__law_blocks_right) X G a__law_blocks_right l__law_blocks_right c__law_blocks_right k__law_blocks_right
  have m__law_range_right := nm_mk (st := s__law_range_right) X G a__law_range_right l__law_range_right c__law_range_right k__law_range_right
  have m__law_asked := nm_mk (st := s__law_asked) X G a__law_asked l__law_asked c__law_asked k__law_asked
  have m__law_operation_refused := nm_mk (st := s__law_operation_refused) X G a__law_operation_refused l__law_operation_refused c__law_operation_refused k__law_operation_refused
  have m__law_size_refused := nm_mk (st := s__law_size_refused) X G a__law_size_refused l__law_size_refused c__law_size_refused k__law_size_refused
  have m_law := nm_mk (st := s_law) X G a_law l_law c_law k_law
  have T : Txt P K mg ⟨f_check_size, f_check_operation, f__check_operations, f__is_legal, f_first_illegal, f_strikes, f_mirror, f_blocks, f_block_part, f__law_box, f__law_draw, f__law_is, f__law_integers, f__law_size, f__law_far_size, f__law_rows, f__law_bent, f__law_struck, f__law_most_kept, f__law_strikes_right, f__law_turned, f__law_mirror_right, f__law_ranges, f__law_part_right, f__law_blocks_right, f__law_range_right, f__law_asked, f__law_operation_refused, f__law_size_refused, fa, LinkError, LogError, BadOperation, i_BadOperation, Illegal, i_Illegal, Refused, i_Refused, BadSize, i_BadSize, BadRange, i_BadRange⟩ :=
    { n_check_size := m_check_size.1,
      F_check_size := ⟨_, m_check_size.2, Fun.binds (ps := ["size"]) m_check_size.2 fun _ _ _ _ _ _ us hl => match us, hl with | [_], _ => rfl⟩,
      n_check_operation := m_check_operation.1,
      F_check_operation := ⟨_, m_check_operation.2, Fun.binds (ps := ["size", "operation", "index"]) m_check_operation.2 fun _ _ _ _ _ _ us hl => match us, hl with | [_, _, _], _ => rfl⟩,
      n__check_operations := m__check_operations.1,
      F__check_operations := ⟨_, m__check_operations.2, Fun.binds (ps := ["size", "log"]) m__check_operations.2 fun _ _ _ _ _ _ us hl => match us, hl with | [_, _], _ => rfl⟩,
      n__is_legal := m__is_legal.1,
      F__is_legal := ⟨_, m__is_legal.2, Fun.binds (ps := ["flags", "operation"]) m__is_legal.2 fun _ _ _ _ _ _ us hl => match us, hl with | [_, _], _ => rfl⟩,
      n_first_illegal := m_first_illegal.1,
      F_first_illegal := ⟨_, m_first_illegal.2, Fun.binds (ps := ["size", "log"]) m_first_illegal.2 fun _ _ _ _ _ _ us hl => match us, hl with | [_, _], _ => rfl⟩,
      n_strikes := m_strikes.1,
      F_strikes := ⟨_, m_strikes.2, Fun.binds (ps := ["size", "log"]) m_strikes.2 fun _ _ _ _ _ _ us hl => match us, hl with | [_, _], _ => rfl⟩,
      n_mirror := m_mirror.1,
      F_mirror := ⟨_, m_mirror.2, Fun.binds (ps := ["size", "log"]) m_mirror.2 fun _ _ _ _ _ _ us hl => match us, hl with | [_, _], _ => rfl⟩,
      n_blocks := m_blocks.1,
      F_blocks := ⟨_, m_blocks.2, Fun.binds (ps := ["size", "log"]) m_blocks.2 fun _ _ _ _ _ _ us hl => match us, hl with | [_, _], _ => rfl⟩,
      n_block_part := m_block_part.1,
      F_block_part := ⟨_, m_block_part.2, Fun.binds (ps := ["size", "log", "low", "high"]) m_block_part.2 fun _ _ _ _ _ _ us hl => match us, hl with | [_, _, _, _], _ => rfl⟩,
      n__law_box := m__law_box.1,
      F__law_box := ⟨_, m__law_box.2, Fun.binds (ps := ["_law_script"]) m__law_box.2 fun _ _ _ _ _ _ us hl => match us, hl with | [_], _ => rfl⟩,
      n__law_draw := m__law_draw.1,
      F__law_draw := ⟨_, m__law_draw.2, Fun.binds (ps := ["_law_box_here", "_law_many"]) m__law_draw.2 fun _ _ _ _ _ _ us hl => match us, hl with | [_, _], _ => rfl⟩,
      n__law_is := m__law_is.1,
      F__law_is := ⟨_, m__law_is.2, Fun.binds (ps := ["_law_told", "_law_due"]) m__law_is.2 fun _ _ _ _ _ _ us hl => match us, hl with | [_, _], _ => rfl⟩,
      n__law_integers := m__law_integers.1,
      F__law_integers := ⟨_, m__law_integers.2, Fun.binds (ps := ["_law_told", "_law_due"]) m__law_integers.2 fun _ _ _ _ _ _ us hl => match us, hl with | [_, _], _ => rfl⟩,
      n__law_size := m__law_size.1,
      F__law_size := ⟨_, m__law_size.2, Fun.binds (ps := ["_law_box_here"]) m__law_size.2 fun _ _ _ _ _ _ us hl => match us, hl with | [_], _ => rfl⟩,
      n__law_far_size := m__law_far_size.1,
      F__law_far_size := ⟨_, m__law_far_size.2, Fun.binds (ps := ["_law_box_here"]) m__law_far_size.2 fun _ _ _ _ _ _ us hl => match us, hl with | [_], _ => rfl⟩,
      n__law_rows := m__law_rows.1,
      F__law_rows := ⟨_, m__law_rows.2, Fun.binds (ps := ["_law_box_here", "_law_size_here"]) m__law_rows.2 fun _ _ _ _ _ _ us hl => match us, hl with | [_, _], _ => rfl⟩,
      n__law_bent := m__law_bent.1,
      F__law_bent := ⟨_, m__law_bent.2, Fun.binds (ps := ["_law_box_here", "_law_size_here", "_law_log"]) m__law_bent.2 fun _ _ _ _ _ _ us hl => match us, hl with | [_, _, _], _ => rfl⟩,
      n__law_struck := m__law_struck.1,
      F__law_struck := ⟨_, m__law_struck.2, Fun.binds (ps := ["_law_size_here", "_law_log"]) m__law_struck.2 fun _ _ _ _ _ _ us hl => match us, hl with | [_, _], _ => rfl⟩,
      n__law_most_kept := m__law_most_kept.1,
      F__law_most_kept := ⟨_, m__law_most_kept.2, Fun.binds (ps := ["_law_size_here", "_law_log"]) m__law_most_kept.2 fun _ _ _ _ _ _ us hl => match us, hl with | [_, _], _ => rfl⟩,
      n__law_strikes_right := m__law_strikes_right.1,
      F__law_strikes_right := ⟨_, m__law_strikes_right.2, Fun.binds (ps := ["_law_size_here", "_law_log"]) m__law_strikes_right.2 fun _ _ _ _ _ _ us hl => match us, hl with | [_, _], _ => rfl⟩,
      n__law_turned := m__law_turned.1,
      F__law_turned := ⟨_, m__law_turned.2, Fun.binds (ps := ["_law_size_here", "_law_operation"]) m__law_turned.2 fun _ _ _ _ _ _ us hl => match us, hl with | [_, _], _ => rfl⟩,
      n__law_mirror_right := m__law_mirror_right.1,
      F__law_mirror_right := ⟨_, m__law_mirror_right.2, Fun.binds (ps := ["_law_size_here", "_law_log"]) m__law_mirror_right.2 fun _ _ _ _ _ _ us hl => match us, hl with | [_, _], _ => rfl⟩,
      n__law_ranges := m__law_ranges.1,
      F__law_ranges := ⟨_, m__law_ranges.2, Fun.binds (ps := ["_law_size_here", "_law_log"]) m__law_ranges.2 fun _ _ _ _ _ _ us hl => match us, hl with | [_, _], _ => rfl⟩,
      n__law_part_right := m__law_part_right.1,
      F__law_part_right := ⟨_, m__law_part_right.2, Fun.binds (ps := ["_law_size_here", "_law_log", "_law_low", "_law_high"]) m__law_part_right.2 fun _ _ _ _ _ _ us hl => match us, hl with | [_, _, _, _], _ => rfl⟩,
      n__law_blocks_right := m__law_blocks_right.1,
      F__law_blocks_right := ⟨_, m__law_blocks_right.2, Fun.binds (ps := ["_law_size_here", "_law_log"]) m__law_blocks_right.2 fun _ _ _ _ _ _ us hl => match us, hl with | [_, _], _ => rfl⟩,
      n__law_range_right := m__law_range_right.1,
      F__law_range_right := ⟨_, m__law_range_right.2, Fun.binds (ps := ["_law_size_here", "_law_log", "_law_low", "_law_high"]) m__law_range_right.2 fun _ _ _ _ _ _ us hl => match us, hl with | [_, _, _, _], _ => rfl⟩,
      n__law_asked := m__law_asked.1,
      F__law_asked := ⟨_, m__law_asked.2, Fun.binds (ps := ["_law_way", "_law_size_here", "_law_log", "_law_low", "_law_high"]) m__law_asked.2 fun _ _ _ _ _ _ us hl => match us, hl with | [_, _, _, _, _], _ => rfl⟩,
      n__law_operation_refused := m__law_operation_refused.1,
      F__law_operation_refused := ⟨_, m__law_operation_refused.2, Fun.binds (ps := ["_law_way", "_law_size_here", "_law_log", "_law_low", "_law_high"]) m__law_operation_refused.2 fun _ _ _ _ _ _ us hl => match us, hl with | [_, _, _, _, _], _ => rfl⟩,
      n__law_size_refused := m__law_size_refused.1,
      F__law_size_refused := ⟨_, m__law_size_refused.2, Fun.binds (ps := ["_law_way", "_law_size_here", "_law_log", "_law_low", "_law_high"]) m__law_size_refused.2 fun _ _ _ _ _ _ us hl => match us, hl with | [_, _, _, _, _], _ => rfl⟩,
      n_law := m_law.1,
      F_law := ⟨_, m_law.2, Fun.binds (ps := ["_law_script"]) m_law.2 fun _ _ _ _ _ _ us hl => match us, hl with | [_], _ => rfl⟩,
      c_LinkError := PySem.W.mg_of X G a_LinkError,
      c_LogError := PySem.W.mg_of X G a_LogError,
      c_BadOperation := PySem.W.mg_of X G a_BadOperation,
      x_BadOperation := x_BadOperation,
      e_BadOperation := e_BadOperation,
      c_Illegal := PySem.W.mg_of X G a_Illegal,
      x_Illegal := x_Illegal,
      e_Illegal := e_Illegal,
      c_Refused := PySem.W.mg_of X G a_Refused,
      x_Refused := x_Refused,
      e_Refused := e_Refused,
      c_BadSize := PySem.W.mg_of X G a_BadSize,
      x_BadSize := x_BadSize,
      e_BadSize := e_BadSize,
      c_BadRange := PySem.W.mg_of X G a_BadRange,
      x_BadRange := x_BadRange,
      e_BadRange := e_BadRange,
      t_BadOperation_LinkError := kit_mk d_LinkError s_BadOperation_BadOperation s_BadOperation_LinkError,
      t_BadOperation_LogError := kit_mk d_LogError s_BadOperation_BadOperation s_BadOperation_LogError,
      t_BadOperation_BadOperation := kit_mk d_BadOperation s_BadOperation_BadOperation s_BadOperation_BadOperation,
      t_BadOperation_Illegal := kit_mk d_Illegal s_BadOperation_BadOperation s_BadOperation_Illegal,
      t_BadOperation_Refused := kit_mk d_Refused s_BadOperation_BadOperation s_BadOperation_Refused,
      t_BadOperation_BadSize := kit_mk d_BadSize s_BadOperation_BadOperation s_BadOperation_BadSize,
      t_BadOperation_BadRange := kit_mk d_BadRange s_BadOperation_BadOperation s_BadOperation_BadRange,
      v_BadOperation := kit_val x_BadOperation.vE,
      t_Illegal_LinkError := kit_mk d_LinkError s_Illegal_Illegal s_Illegal_LinkError,
      t_Illegal_LogError := kit_mk d_LogError s_Illegal_Illegal s_Illegal_LogError,
      t_Illegal_BadOperation := kit_mk d_BadOperation s_Illegal_Illegal s_Illegal_BadOperation,
      t_Illegal_Illegal := kit_mk d_Illegal s_Illegal_Illegal s_Illegal_Illegal,
      t_Illegal_Refused := kit_mk d_Refused s_Illegal_Illegal s_Illegal_Refused,
      t_Illegal_BadSize := kit_mk d_BadSize s_Illegal_Illegal s_Illegal_BadSize,
      t_Illegal_BadRange := kit_mk d_BadRange s_Illegal_Illegal s_Illegal_BadRange,
      v_Illegal := kit_val x_Illegal.vE,
      t_Refused_LinkError := kit_mk d_LinkError s_Refused_Refused s_Refused_LinkError,
      t_Refused_LogError := kit_mk d_LogError s_Refused_Refused s_Refused_LogError,
      t_Refused_BadOperation := kit_mk d_BadOperation s_Refused_Refused s_Refused_BadOperation,
      t_Refused_Illegal := kit_mk d_Illegal s_Refused_Refused s_Refused_Illegal,
      t_Refused_Refused := kit_mk d_Refused s_Refused_Refused s_Refused_Refused,
      t_Refused_BadSize := kit_mk d_BadSize s_Refused_Refused s_Refused_BadSize,
      t_Refused_BadRange := kit_mk d_BadRange s_Refused_Refused s_Refused_BadRange,
      v_Refused := kit_val x_Refused.vE,
      t_BadSize_LinkError := kit_mk d_LinkError s_BadSize_BadSize s_BadSize_LinkError,
      t_BadSize_LogError := kit_mk d_LogError s_BadSize_BadSize s_BadSize_LogError,
      t_BadSize_BadOperation := kit_mk d_BadOperation s_BadSize_BadSize s_BadSize_BadOperation,
      t_BadSize_Illegal := kit_mk d_Illegal s_BadSize_BadSize s_BadSize_Illegal,
      t_BadSize_Refused := kit_mk d_Refused s_BadSize_BadSize s_BadSize_Refused,
      t_BadSize_BadSize := kit_mk d_BadSize s_BadSize_BadSize s_BadSize_BadSize,
      t_BadSize_BadRange := kit_mk d_BadRange s_BadSize_BadSize s_BadSize_BadRange,
      v_BadSize := kit_val x_BadSize.vE,
      t_BadRange_LinkError := kit_mk d_LinkError s_BadRange_BadRange s_BadRange_LinkError,
      t_BadRange_LogError := kit_mk d_LogError s_BadRange_BadRange s_BadRange_LogError,
      t_BadRange_BadOperation := kit_mk d_BadOperation s_BadRange_BadRange s_BadRange_BadOperation,
      t_BadRange_Illegal := kit_mk d_Illegal s_BadRange_BadRange s_BadRange_Illegal,
      t_BadRange_Refused := kit_mk d_Refused s_BadRange_BadRange s_BadRange_Refused,
      t_BadRange_BadSize := kit_mk d_BadSize s_BadRange_BadRange s_BadRange_BadSize,
      t_BadRange_BadRange := kit_mk d_BadRange s_BadRange_BadRange s_BadRange_BadRange,
      v_BadRange := kit_val x_BadRange.vE,
      b_ValueError := PySem.W.mg_none_of X G b_ValueError,
      b_enumerate := PySem.W.mg_none_of X G b_enumerate,
      b_range := PySem.W.mg_none_of X G b_range,
      b_list := PySem.W.mg_none_of X G b_list,
      b_int := PySem.W.mg_none_of X G b_int,
      b_isinstance := PySem.W.mg_none_of X G b_isinstance,
      b_len := PySem.W.mg_none_of X G b_len,
      b_abs := PySem.W.mg_none_of X G b_abs,
      b_bool := PySem.W.mg_none_of X G b_bool,
      b_max := PySem.W.mg_none_of X G b_max,
      b_super := PySem.W.mg_none_of X G b_super,
      b_tuple := PySem.W.mg_none_of X G b_tuple,
      k_MOST_NODES := ⟨_, PySem.W.mg_of X G k_MOST_NODES⟩ }
  refine ⟨PySem.W.fnOf "law" "law" (defArgs s_law) (defBody s_law) (defScope s_law) .none kV_law dc_law pm_law an_law cd_law ct_law, fun s v => .of_eq rfl, fun base _ _ => ?_⟩
  have G__law_box := ok__law_box (w := w) (base := base) T
  have G__law_draw := ok__law_draw (w := w) (base := base) T
  have G__law_size := ok__law_size (w := w) (base := base) T G__law_draw
  have G__law_rows := ok__law_rows (w := w) (base := base) T G__law_draw
  have G__law_bent := ok__law_bent (w := w) (base := base) T G__law_draw
  have G__law_far_size := ok__law_far_size (w := w) (base := base) T G__law_draw
  have G__law_struck := ok__law_struck (w := w) (base := base) T
  have G_check_size := ok_check_size (w := w) (base := base) T
  have G_check_operation := ok_check_operation (w := w) (base := base) T
  have G__check_operations := ok__check_operations (w := w) (base := base) T G_check_size G_check_operation
  have G__is_legal := ok__is_legal (w := w) (base := base) T
  have G_strikes := ok_strikes (w := w) (base := base) T G__check_operations G__is_legal
  have G__law_is := ok__law_is (w := w) (base := base) T
  have G__law_integers := ok__law_integers (w := w) (base := base) T G__law_is
  have G__law_most_kept := ok__law_most_kept (w := w) (base := base) T
  have G_first_illegal := ok_first_illegal (w := w) (base := base) T G_strikes
  have G__law_strikes_right := ok__law_strikes_right (w := w) (base := base) T G__law_struck G_strikes G__law_integers G__law_most_kept G_first_illegal G__law_is
  have G__law_turned := ok__law_turned (w := w) (base := base) T
  have G_mirror := ok_mirror (w := w) (base := base) T G__check_operations
  have G__law_mirror_right := ok__law_mirror_right (w := w) (base := base) T G__law_turned G_mirror G__law_integers
  have G__law_ranges := ok__law_ranges (w := w) (base := base) T
  have G_blocks := ok_blocks (w := w) (base := base) T G__check_operations
  have G_block_part := ok_block_part (w := w) (base := base) T G__check_operations
  have G__law_part_right := ok__law_part_right (w := w) (base := base) T G_block_part G__law_integers
  have G__law_blocks_right := ok__law_blocks_right (w := w) (base := base) T G__law_ranges G_blocks G__law_integers G__law_is G__law_part_right
  have H__law_is := hk__law_is (w := w) (base := base) T
  have H__law_integers := hk__law_integers (w := w) (base := base) T H__law_is
  have G__law_range_right := ok__law_range_right (w := w) (base := base) T G__law_part_right G_block_part H__law_is H__law_integers
  have G__law_asked := ok__law_asked (w := w) (base := base) T G_first_illegal G_strikes G_mirror G_blocks G_block_part
  have G__law_operation_refused := ok__law_operation_refused (w := w) (base := base) T G__law_asked H__law_is H__law_integers
  have G__law_size_refused := ok__law_size_refused (w := w) (base := base) T G__law_asked H__law_is H__law_integers
  exact ok_law T m_law.2 G__law_box G__law_size G__law_rows G__law_draw G__law_bent G__law_far_size G__law_strikes_right G__law_mirror_right G__law_blocks_right G__law_range_right G__law_operation_refused G__law_size_refused
end Lk
open PySem PySem.W PySem.Calls PyProof.Rows
set_option maxRecDepth 100000 in
set_option maxHeartbeats 0 in
theorem PySem.Challenge.cw_latelink_k01_rows_of_operations_holds : PySem.Challenge.rw_latelink_k01_rows_of_operations.Holds := by
  w_on; o_law; k_head; (case hw => w_witness2)
  k_fill
  refine L2.walk_of (l := PySem.Challenge.rw_latelink_k01_rows_of_operations) (n := 63) (k := 8) (x := "_law_script") (CX := fun w => L2N.CX PySem.Challenge.rw_latelink_k01_rows_of_operations.prog w) (sp := fun w => Lk.spL _) rfl (by decide) rfl ⟨rfl, by decide, by decide⟩ (fun w h Y => PySem.W.kIn_of Y) ?F (fun w H a ns hl hO hS => Lk.spL_ok hl hS) Lk.noCX
  case F =>
    intro w mg fa h KX G hmg
    refine' Lk.all_mk KX G hmg ?a_LinkError ?a_LogError ?a_BadOperation ?a_Illegal ?a_Refused ?a_BadSize ?a_BadRange ?d_LinkError ?d_LogError ?d_BadOperation ?d_Illegal ?d_Refused ?d_BadSize ?d_BadRange ?x_BadOperation ?e_BadOperation ?s_BadOperation_LinkError ?s_BadOperation_LogError ?s_BadOperation_BadOperation ?s_BadOperation_Illegal ?s_BadOperation_Refused ?s_BadOperation_BadSize ?s_BadOperation_BadRange ?x_Illegal ?e_Illegal ?s_Illegal_LinkError ?s_Illegal_LogError ?s_Illegal_BadOperation ?s_Illegal_Illegal ?s_Illegal_Refused ?s_Illegal_BadSize ?s_Illegal_BadRange ?x_Refused ?e_Refused ?s_Refused_LinkError ?s_Refused_LogError ?s_Refused_BadOperation ?s_Refused_Illegal ?s_Refused_Refused ?s_Refused_BadSize ?s_Refused_BadRange ?x_BadSize ?e_BadSize ?s_BadSize_LinkError ?s_BadSize_LogError ?s_BadSize_BadOperation ?s_BadSize_Illegal ?s_BadSize_Refused ?s_BadSize_BadSize ?s_BadSize_BadRange ?x_BadRange ?e_BadRange ?s_BadRange_LinkError ?s_BadRange_LogError ?s_BadRange_BadOperation ?s_BadRange_Illegal ?s_BadRange_Refused ?s_BadRange_BadSize ?s_BadRange_BadRange ?a_check_size ?l_check_size ?c_check_size ?k_check_size ?a_check_operation ?l_check_operation ?c_check_operation ?k_check_operation ?a__check_operations ?l__check_operations ?c__check_operations ?k__check_operations ?a__is_legal ?l__is_legal ?c__is_legal ?k__is_legal ?a_first_illegal ?l_first_illegal ?c_first_illegal ?k_first_illegal ?a_strikes ?l_strikes ?c_strikes ?k_strikes ?a_mirror ?l_mirror ?c_mirror ?k_mirror ?a_blocks ?l_blocks ?c_blocks ?k_blocks ?a_block_part ?l_block_part ?c_block_part ?k_block_part ?a__law_box ?l__law_box ?c__law_box ?k__law_box ?a__law_draw ?l__law_draw ?c__law_draw ?k__law_draw ?a__law_is ?l__law_is ?c__law_is ?k__law_is ?a__law_integers ?l__law_integers ?c__law_integers ?k__law_integers ?a__law_size ?l__law_size ?c__law_size ?k__law_size ?a__law_far_size ?l__law_far_size ?c__law_far_size ?k__law_far_size ?a__law_rows ?l__law_rows ?c__law_rows ?k__law_rows ?a__law_bent ?l__law_bent ?c__law_bent ?k__law_bent ?a__law_struck ?l__law_struck ?c__law_struck ?k__law_struck ?a__law_most_kept ?l__law_most_kept ?c__law_most_kept ?k__law_most_kept ?a__law_strikes_right ?l__law_strikes_right ?c__law_strikes_right ?k__law_strikes_right ?a__law_turned ?l__law_turned ?c__law_turned ?k__law_turned ?a__law_mirror_right ?l__law_mirror_right ?c__law_mirror_right ?k__law_mirror_right ?a__law_ranges ?l__law_ranges ?c__law_ranges ?k__law_ranges ?a__law_part_right ?l__law_part_right ?c__law_part_right ?k__law_part_right ?a__law_blocks_right ?l__law_blocks_right ?c__law_blocks_right ?k__law_blocks_right ?a__law_range_right ?l__law_range_right ?c__law_range_right ?k__law_range_right ?a__law_asked ?l__law_asked ?c__law_asked ?k__law_asked ?a__law_operation_refused ?l__law_operation_refused ?c__law_operation_refused ?k__law_operation_refused ?a__law_size_refused ?l__law_size_refused ?c__law_size_refused ?k__law_size_refused ?a_law ?l_law ?c_law ?k_law ?b_ValueError ?b_enumerate ?b_range ?b_list ?b_int ?b_isinstance ?b_len ?b_abs ?b_bool ?b_max ?b_super ?b_tuple ?k_MOST_NODES
    (case a_LinkError => k_is)
    (case a_LogError => k_is)
    (case a_BadOperation => k_is)
    (case a_Illegal => k_is)
    (case a_Refused => k_is)
    (case a_BadSize => k_is)
    (case a_BadRange => k_is)
    (case d_LinkError => refine ⟨?_, ?_, ?_⟩ <;> k_is)
    (case d_LogError => refine ⟨?_, ?_, ?_⟩ <;> k_is)
    (case d_BadOperation => refine ⟨?_, ?_, ?_⟩ <;> k_is)
    (case d_Illegal => refine ⟨?_, ?_, ?_⟩ <;> k_is)
    (case d_Refused => refine ⟨?_, ?_, ?_⟩ <;> k_is)
    (case d_BadSize => refine ⟨?_, ?_, ?_⟩ <;> k_is)
    (case d_BadRange => refine ⟨?_, ?_, ?_⟩ <;> k_is)
    case x_BadOperation =>
      refine' LkX.exc_mk (st := Lk.s_BadOperation___init__) (qual := "BadOperation.__init__") ?p1 ?p2 ?p3 ?p4 ?p5 ?p6 ?p7 ?p8 ?p9 ?q1 ?q2 ?q3 ?q4 ?q5 ?q6 ?q7 ?q8 ?r1 ?r2 ⟨_, _, _, _, _, _, _, _, _, rfl, rfl, (.cons (.cons .nil))⟩ rfl rfl rfl rfl rfl (by decide +kernel) (by decide +kernel) rfl rfl rfl (fun us hl => match us, hl with | [_, _, _], _ => rfl) (by decide +kernel) (by decide +kernel) (by decide)
      (case p1 => k_is)
      (case p2 => k_is)
      (case p3 => k_is)
      (case p4 => k_is)
      (case p5 => k_is)
      (case p6 => k_is)
      (case p7 => k_is)
      (case p8 => k_is)
      (case p9 => k_is)
      (case q1 => k_is)
      (case q2 => k_is)
      (case q3 => k_is)
      (case q4 => k_is)
      (case q5 => k_is)
      (case q6 => kernel_rfl)
      (case q7 => decide +kernel)
      (case q8 => refine Lk.all_in ?_; refine ⟨?_, ?_⟩; (· k_is); refine ⟨?_, ?_⟩; (· k_is); exact trivial)
      (case r1 => rfl)
      (case r2 => kernel_rfl)
    (case e_BadOperation => refine Lk.exc_ef ?_ ?_ ?_ ?_ ?_ ?_ ?_ ?_ <;> k_is)
    (case s_BadOperation_LinkError => k_is)
    (case s_BadOperation_LogError => k_is)
    (case s_BadOperation_BadOperation => k_is)
    (case s_BadOperation_Illegal => k_is)
    (case s_BadOperation_Refused => k_is)
    (case s_BadOperation_BadSize => k_is)
    (case s_BadOperation_BadRange => k_is)
    case x_Illegal =>
      refine' LkX.exc_mk (st := Lk.s_Illegal___init__) (qual := "Illegal.__init__") ?p1 ?p2 ?p3 ?p4 ?p5 ?p6 ?p7 ?p8 ?p9 ?q1 ?q2 ?q3 ?q4 ?q5 ?q6 ?q7 ?q8 ?r1 ?r2 ⟨_, _, _, _, _, _, _, _, _, rfl, rfl, (.cons (.cons .nil))⟩ rfl rfl rfl rfl rfl (by decide +kernel) (by decide +kernel) rfl rfl rfl (fun us hl => match us, hl with | [_, _, _], _ => rfl) (by decide +kernel) (by decide +kernel) (by decide)
      (case p1 => k_is)
      (case p2 => k_is)
      (case p3 => k_is)
      (case p4 => k_is)
      (case p5 => k_is)
      (case p6 => k_is)
      (case p7 => k_is)
      (case p8 => k_is)
      (case p9 => k_is)
      (case q1 => k_is)
      (case q2 => k_is)
      (case q3 => k_is)
      (case q4 => k_is)
      (case q5 => k_is)
      (case q6 => kernel_rfl)
      (case q7 => decide +kernel)
      (case q8 => refine Lk.all_in ?_; refine ⟨?_, ?_⟩; (· k_is); refine ⟨?_, ?_⟩; (· k_is); exact trivial)
      (case r1 => rfl)
      (case r2 => kernel_rfl)
    (case e_Illegal => refine Lk.exc_ef ?_ ?_ ?_ ?_ ?_ ?_ ?_ ?_ <;> k_is)
    (case s_Illegal_LinkError => k_is)
    (case s_Illegal_LogError => k_is)
    (case s_Illegal_BadOperation => k_is)
    (case s_Illegal_Illegal => k_is)
    (case s_Illegal_Refused => k_is)
    (case s_Illegal_BadSize => k_is)
    (case s_Illegal_BadRange => k_is)
    case x_Refused =>
      refine' LkX.exc_mk (st := Lk.s_Refused___init__) (qual := "Refused.__init__") ?p1 ?p2 ?p3 ?p4 ?p5 ?p6 ?p7 ?p8 ?p9 ?q1 ?q2 ?q3 ?q4 ?q5 ?q6 ?q7 ?q8 ?r1 ?r2 ⟨_, _, _, _, _, _, _, _, _, rfl, rfl, (.cons (.cons (.cons .nil)))⟩ rfl rfl rfl rfl rfl (by decide +kernel) (by decide +kernel) rfl rfl rfl (fun us hl => match us, hl with | [_, _, _, _], _ => rfl) (by decide +kernel) (by decide +kernel) (by decide)
      (case p1 => k_is)
      (case p2 => k_is)
      (case p3 => k_is)
      (case p4 => k_is)
      (case p5 => k_is)
      (case p6 => k_is)
      (case p7 => k_is)
      (case p8 => k_is)
      (case p9 => k_is)
      (case q1 => k_is)
      (case q2 => k_is)
      (case q3 => k_is)
      (case q4 => k_is)
      (case q5 => k_is)
      (case q6 => kernel_rfl)
      (case q7 => decide +kernel)
      (case q8 => refine Lk.all_in ?_; refine ⟨?_, ?_⟩; (· k_is); refine ⟨?_, ?_⟩; (· k_is); refine ⟨?_, ?_⟩; (· k_is); exact trivial)
      (case r1 => rfl)
      (case r2 => kernel_rfl)
    (case e_Refused => refine Lk.exc_ef ?_ ?_ ?_ ?_ ?_ ?_ ?_ ?_ <;> k_is)
    (case s_Refused_LinkError => k_is)
    (case s_Refused_LogError => k_is)
    (case s_Refused_BadOperation => k_is)
    (case s_Refused_Illegal => k_is)
    (case s_Refused_Refused => k_is)
    (case s_Refused_BadSize => k_is)
    (case s_Refused_BadRange => k_is)
    case x_BadSize =>
      refine' LkX.exc_mk (st := Lk.s_BadSize___init__) (qual := "BadSize.__init__") ?p1 ?p2 ?p3 ?p4 ?p5 ?p6 ?p7 ?p8 ?p9 ?q1 ?q2 ?q3 ?q4 ?q5 ?q6 ?q7 ?q8 ?r1 ?r2 ⟨_, _, _, _, _, _, _, _, _, rfl, rfl, (.cons .nil)⟩ rfl rfl rfl rfl rfl (by decide +kernel) (by decide +kernel) rfl rfl rfl (fun us hl => match us, hl with | [_, _], _ => rfl) (by decide +kernel) (by decide +kernel) (by decide)
      (case p1 => k_is)
      (case p2 => k_is)
      (case p3 => k_is)
      (case p4 => k_is)
      (case p5 => k_is)
      (case p6 => k_is)
      (case p7 => k_is)
      (case p8 => k_is)
      (case p9 => k_is)
      (case q1 => k_is)
      (case q2 => k_is)
      (case q3 => k_is)
      (case q4 => k_is)
      (case q5 => k_is)
      (case q6 => kernel_rfl)
      (case q7 => decide +kernel)
      (case q8 => refine Lk.all_in ?_; refine ⟨?_, ?_⟩; (· k_is); exact trivial)
      (case r1 => rfl)
      (case r2 => kernel_rfl)
    (case e_BadSize => refine Lk.exc_ef ?_ ?_ ?_ ?_ ?_ ?_ ?_ ?_ <;> k_is)
    (case s_BadSize_LinkError => k_is)
    (case s_BadSize_LogError => k_is)
    (case s_BadSize_BadOperation => k_is)
    (case s_BadSize_Illegal => k_is)
    (case s_BadSize_Refused => k_is)
    (case s_BadSize_BadSize => k_is)
    (case s_BadSize_BadRange => k_is)
    case x_BadRange =>
      refine' LkX.exc_mk (st := Lk.s_BadRange___init__) (qual := "BadRange.__init__") ?p1 ?p2 ?p3 ?p4 ?p5 ?p6 ?p7 ?p8 ?p9 ?q1 ?q2 ?q3 ?q4 ?q5 ?q6 ?q7 ?q8 ?r1 ?r2 ⟨_, _, _, _, _, _, _, _, _, rfl, rfl, (.cons (.cons .nil))⟩ rfl rfl rfl rfl rfl (by decide +kernel) (by decide +kernel) rfl rfl rfl (fun us hl => match us, hl with | [_, _, _], _ => rfl) (by decide +kernel) (by decide +kernel) (by decide)
      (case p1 => k_is)
      (case p2 => k_is)
      (case p3 => k_is)
      (case p4 => k_is)
      (case p5 => k_is)
      (case p6 => k_is)
      (case p7 => k_is)
      (case p8 => k_is)
      (case p9 => k_is)
      (case q1 => k_is)
      (case q2 => k_is)
      (case q3 => k_is)
      (case q4 => k_is)
      (case q5 => k_is)
      (case q6 => kernel_rfl)
      (case q7 => decide +kernel)
      (case q8 => refine Lk.all_in ?_; refine ⟨?_, ?_⟩; (· k_is); refine ⟨?_, ?_⟩; (· k_is); exact trivial)
      (case r1 => rfl)
      (case r2 => kernel_rfl)
    (case e_BadRange => refine Lk.exc_ef ?_ ?_ ?_ ?_ ?_ ?_ ?_ ?_ <;> k_is)
    (case s_BadRange_LinkError => k_is)
    (case s_BadRange_LogError => k_is)
    (case s_BadRange_BadOperation => k_is)
    (case s_BadRange_Illegal => k_is)
    (case s_BadRange_Refused => k_is)
    (case s_BadRange_BadSize => k_is)
    (case s_BadRange_BadRange => k_is)
    (case a_check_size => k_is)
    (case l_check_size => k_is)
    (case c_check_size => k_is)
    (case k_check_size => k_is)
    (case a_check_operation => k_is)
    (case l_check_operation => k_is)
    (case c_check_operation => k_is)
    (case k_check_operation => k_is)
    (case a__check_operations => k_is)
    (case l__check_operations => k_is)
    (case c__check_operations => k_is)
    (case k__check_operations => k_is)
    (case a__is_legal => k_is)
    (case l__is_legal => k_is)
    (case c__is_legal => k_is)
    (case k__is_legal => k_is)
    (case a_first_illegal => k_is)
    (case l_first_illegal => k_is)
    (case c_first_illegal => k_is)
    (case k_first_illegal => k_is)
    (case a_strikes => k_is)
    (case l_strikes => k_is)
    (case c_strikes => k_is)
    (case k_strikes => k_is)
    (case a_mirror => k_is)
    (case l_mirror => k_is)
    (case c_mirror => k_is)
    (case k_mirror => k_is)
    (case a_blocks => k_is)
    (case l_blocks => k_is)
    (case c_blocks => k_is)
    (case k_blocks => k_is)
    (case a_block_part => k_is)
    (case l_block_part => k_is)
    (case c_block_part => k_is)
    (case k_block_part => k_is)
    (case a__law_box => k_is)
    (case l__law_box => k_is)
    (case c__law_box => k_is)
    (case k__law_box => k_is)
    (case a__law_draw => k_is)
    (case l__law_draw => k_is)
    (case c__law_draw => k_is)
    (case k__law_draw => k_is)
    (case a__law_is => k_is)
    (case l__law_is => k_is)
    (case c__law_is => k_is)
    (case k__law_is => k_is)
    (case a__law_integers => k_is)
    (case l__law_integers => k_is)
    (case c__law_integers => k_is)
    (case k__law_integers => k_is)
    (case a__law_size => k_is)
    (case l__law_size => k_is)
    (case c__law_size => k_is)
    (case k__law_size => k_is)
    (case a__law_far_size => k_is)
    (case l__law_far_size => k_is)
    (case c__law_far_size => k_is)
    (case k__law_far_size => k_is)
    (case a__law_rows => k_is)
    (case l__law_rows => k_is)
    (case c__law_rows => k_is)
    (case k__law_rows => k_is)
    (case a__law_bent => k_is)
    (case l__law_bent => k_is)
    (case c__law_bent => k_is)
    (case k__law_bent => k_is)
    (case a__law_struck => k_is)
    (case l__law_struck => k_is)
    (case c__law_struck => k_is)
    (case k__law_struck => k_is)
    (case a__law_most_kept => k_is)
    (case l__law_most_kept => k_is)
    (case c__law_most_kept => k_is)
    (case k__law_most_kept => k_is)
    (case a__law_strikes_right => k_is)
    (case l__law_strikes_right => k_is)
    (case c__law_strikes_right => k_is)
    (case k__law_strikes_right => k_is)
    (case a__law_turned => k_is)
    (case l__law_turned => k_is)
    (case c__law_turned => k_is)
    (case k__law_turned => k_is)
    (case a__law_mirror_right => k_is)
    (case l__law_mirror_right => k_is)
    (case c__law_mirror_right => k_is)
    (case k__law_mirror_right => k_is)
    (case a__law_ranges => k_is)
    (case l__law_ranges => k_is)
    (case c__law_ranges => k_is)
    (case k__law_ranges => k_is)
    (case a__law_part_right => k_is)
    (case l__law_part_right => k_is)
    (case c__law_part_right => k_is)
    (case k__law_part_right => k_is)
    (case a__law_blocks_right => k_is)
    (case l__law_blocks_right => k_is)
    (case c__law_blocks_right => k_is)
    (case k__law_blocks_right => k_is)
    (case a__law_range_right => k_is)
    (case l__law_range_right => k_is)
    (case c__law_range_right => k_is)
    (case k__law_range_right => k_is)
    (case a__law_asked => k_is)
    (case l__law_asked => k_is)
    (case c__law_asked => k_is)
    (case k__law_asked => k_is)
    (case a__law_operation_refused => k_is)
    (case l__law_operation_refused => k_is)
    (case c__law_operation_refused => k_is)
    (case k__law_operation_refused => k_is)
    (case a__law_size_refused => k_is)
    (case l__law_size_refused => k_is)
    (case c__law_size_refused => k_is)
    (case k__law_size_refused => k_is)
    (case a_law => k_is)
    (case l_law => k_is)
    (case c_law => k_is)
    (case k_law => k_is)
    (case b_ValueError => k_is)
    (case b_enumerate => k_is)
    (case b_range => k_is)
    (case b_list => k_is)
    (case b_int => k_is)
    (case b_isinstance => k_is)
    (case b_len => k_is)
    (case b_abs => k_is)
    (case b_bool => k_is)
    (case b_max => k_is)
    (case b_super => k_is)
    (case b_tuple => k_is)
    (case k_MOST_NODES => k_is)
