import PyProof.Rows.All
import Wide.All
import OpenK.AllK
import Wide.FinOn
import KE.KExcSuper
import HandS.ForMost
import HandS.Exc
import HandS.ExcInit
import HandS.ExcCtx
import HandS.HotCalls
import HandS.ExcInitHot
import HandS.ExcIs
import HandS.More
import HandS.IsInst
import HandS.ExcField
import HandS.CallSlots
import HandS.TryMany
import HandS.Text
import HandS.Zip
import KE.KExcIs
import HandS.ClsMeth
import HandS.StrMore
import HandS.Sort
import HandS.Conv
import HandS.Codes
import HandS.Comp
import PySem.Challenge.RW_latelink_k17_whole_first_repair
set_option Elab.async false
set_option linter.all false
set_option maxRecDepth 100000
set_option maxHeartbeats 4000000
/-! own exceptions whose __init__ is: super().__init__('text'); self.f = f, .. -/
namespace LkX
open PySem PySem.W PySem.Calls PyProof.Rows PySem.HandSPX

/-- the stores: self.f = f, for the names in turn -/
inductive Stores : List Str → List Stmt → Prop
  | nil : Stores [] []
  | cons {f : Str} {fs : List Str} {ss : List Stmt} {q1 q2 q3 q4 : Pos} : Stores fs ss → Stores (f :: fs) (.Assign [.Attribute (.Name "self" q1) f q2] (.Name f q3) q4 :: ss)
/-- the whole body -/
def InitBody (fs : List Str) (body : List Stmt) : Prop := ∃ (m : Str) (j : Nat) (p0 p1 p2 p3 p4 p5 : Pos) (ss : List Stmt),
  body = .Expr (.Call (.Attribute (.Call (.Name "super" p0) [] [] p1) "__init__" p2) [.Constant (.str m) j p3] [] p4) p5 :: ss ∧ (p2.endLine == p4.line) = true ∧ Stores fs ss

/-- what the written part says of the class x at C, its __init__ at fI, its fields' names fs -/
structure ExcTxt (prog : Program) (K : Frag) (C fI : Addr) (fs : List Str) : Prop where
  cls : ∃ nm q N bs bm sn sub ab col dd k0 k1 k2 k3 k5, K.lookup C = some (excClassObj nm q C N bs bm true sn sub ab col dd k0 k1 k2 k3 k5 "ValueError.__new__") ∧ refsVE bm = true
  sa : findIn K (.ref C) "__setattr__" = some (some (.builtin "object.__setattr__"))
  noN : ∀ f ∈ fs, findIn K (.ref C) f = some none
  iC : findIn K (.ref C) "__init__" = some (some (.ref fI))
  tI : typeIn K (.ref fI) = some (.type "function")
  kC : keepIn K (.ref C) = true
  exC : subIn K (.ref C) (.type "BaseException") = some true
  tyC : typeIn K (.ref C) = some (.type "type")
  vE : subIn K (.ref C) (.type "ValueError") = some true
  su : ks_superIn K C C "__init__" = some (some (.builtin "ValueError.__init__"))
  op : nsIn K cStatics "thirdparty.any" = some none
  gs : nsIn K mainGlobals "super" = some none
  fn : ∃ (qual : Str) (params : Arguments) (body : List Stmt) (scope : Scope) (oc : Value) (od : Option Addr) (doc pm : Value) (an : Option Addr) (cda : Addr) (ct : Value) (cc : Addr) (osl : Array (Option Value)) (ccl : Value) (cdd : Option Addr) (cvs : Array Value) (ccs : Array (Option Value)) (file : Str) (tf : Tok) (cl : Value) (cld : Option Addr) (csl : Array (Option Value)) (ar : Arg),
    K.lookup fI = some ⟨oc, od, .func (ksFn "__init__" qual params body scope .none .none doc pm an (.ref cda) ct cc), osl⟩ ∧ codeIn K (.ref cda) qual = true ∧
    K.lookup cda = some ⟨ccl, cdd, .fields cvs, ccs⟩ ∧ cvs[2]? = some (.str file tf) ∧ ((prog.main.file : Str) == file) = true ∧
    K.lookup cc = some ⟨cl, cld, .cell (some (.ref C)), csl⟩ ∧ InitBody fs body ∧ (params.posonlyargs ++ params.args).head? = some ar ∧ ar.arg = "self" ∧
    (prog.main.scope.names.lookup ("super" : Str)).isSome = false ∧
    scope.names.lookup ("super" : Str) = some .globalImplicit ∧ scope.names.lookup ("__class__" : Str) = some .free ∧ (∀ x ∈ scope.names, x.2 ≠ .cell) ∧
    (∀ f ∈ ("self" : Str) :: fs, scope.names.lookup f = some .local) ∧ scope.isCoroutine = false ∧ scope.isGenerator = false ∧ scope.kind = .function ∧
    (∀ us : List Value, us.length = (("self" : Str) :: fs).length → bindArgs (ksFn "__init__" qual params body scope .none .none doc pm an (.ref cda) ct cc) ⟨us, []⟩ = pure ((("self" : Str) :: fs).zip us))
  nd : (("self" : Str) :: fs).Nodup
  nb : ∀ f ∈ ("self" : Str) :: fs, (f == ("__debug__" : Str)) = false
  few : fs.length ≤ 100

theorem lookup_zip : ∀ {ns : List Str} {vs : List Value} {i : Nat} {f : Str} {v : Value}, ns.Nodup → ns[i]? = some f → vs[i]? = some v → (ns.zip vs).reverse.lookup f = some v := by
  intro ns
  induction ns with
  | nil => intro vs i f v _ h; simp at h
  | cons n ns ih =>
    intro vs i f v hd hf hv
    cases vs with
    | nil => simp at hv
    | cons u vs =>
      have hd' := List.nodup_cons.mp hd
      rw [List.zip_cons_cons, List.reverse_cons, List.lookup_append]
      cases i with
      | zero =>
        simp at hf hv
        subst hf; subst hv
        have hno : (ns.zip vs).reverse.lookup n = none := by
          cases hq : (ns.zip vs).reverse.lookup n with
          | none => rfl
          | some w =>
            have := PySem.mem_of_lookup hq
            rw [List.mem_reverse] at this
            exact absurd (List.of_mem_zip this).1 hd'.1
        rw [hno]
        simp [List.lookup]
      | succ i =>
        simp at hf hv
        rw [ih hd'.2 hf hv]
        rfl

theorem mcall_plain {o e : Expr} {name : Str} {apos pos : Pos} {env : Env} (h : (apos.endLine == pos.line) = true) (he : starEach [e] env = [(false, eval e env)] := by rfl) :
    eval (.Call (.Attribute o name apos) [e] [] pos) env = (do
      let ov ← attributeBase o name env (eval o env)
      standAt apos.atName
      let (f, first) ← holding [ov] (getMethod ov name (do return (← importBound o env).getD true))
      callWith pos f first (backTo pos (starEach [e] env)) []) := by
  rw [arm_eval_Call, he]
  unfold methodCall methodCallPos calleeOf
  rw [h]
  rfl
theorem quiet_of {env : Env} (h : env.scope.kind = .function) : interactive env = false := by simp [interactive, h]
theorem callWith1 {M : Model} {A : Around} {E : Value → Shared → Prop} {s : Shared} {i : String} {x u : Addr} {pos : Pos} {env : Env} {e : Expr} {rest : List Expr} {Q : Value → Shared → Prop}
    (h : wpAny M A (spliced (backTo pos (starEach (e :: rest) env))) (fun vs s₁ => KxsAt i u x s₁.heap ∧ wpAny M A (call (.ref u) vs) Q E s₁) E s)
    (he : starEach (e :: rest) env = (false, eval e env) :: starEach rest env := by rfl) (hplain : (backTo pos (starEach rest env)).any (·.1) = false := by rfl) :
    wpAny M A (callWith pos (.ref u) [] (backTo pos (starEach (e :: rest) env)) []) Q E s := by
  rw [he] at h ⊢
  refine kxs_callWith (i := i) (x := x) (by show (false || (backTo pos (starEach rest env)).any (·.1)) = false; rw [hplain]; rfl) ?_
  exact evalArgs_plain h
theorem spl1 {M : Model} {A : Around} {E : Value → Shared → Prop} {s : Shared} {pos : Pos} {env : Env} {e : Expr} {Q : List Value → Shared → Prop} (h : wpAny M A (eval e env) (fun v s₁ => Q [v] s₁) E s) (he : starEach [e] env = [(false, eval e env)] := by rfl) :
    wpAny M A (spliced (backTo pos (starEach [e] env))) Q E s := by
  rw [he]
  show wpAny _ _ (spliced ((false, eval e env) :: [])) _ _ s
  exact Calls.spliced_cons (wpAny_mono h (fun v s1 q => Calls.spliced_nil q) fun _ _ z => z)
/-- what __init__ leaves of the exception at x: its dict at dx holds m -/
structure InitEnd (h h' : Heap) (x C : Addr) (fs : List Str) (vs : List Value) : Prop where
  keep : ∀ b o, b ≠ x → h.get? b = some o → h'.get? b = some o
  fin : ∃ (t1 dx : Addr), h'.get? x = some ({ cls := .ref C, dict := some dx, data := .fields #[.ref t1, .none, .none, .none, .bool false, .none] } : Obj) ∧ h.objs.size ≤ dx ∧ dx ≠ x ∧
    ∃ mA, h'.Ns1 dx mA ∧ (∀ (i : Nat) (f : Str) (v : Value), fs[i]? = some f → vs[i]? = some v → mA f = some v) ∧ ∀ f, f ∉ fs → mA f = none

section
variable {prog : Program} {w : World} {A : Around} {E : Value → Shared → Prop} {R : Result → Shared → Prop} {K : Frag} {C fI : Addr} {fs : List Str}

theorem ldE {M : Model} {s : Shared} {env : Env} {m : Str → Option Value} {x : Str} {pos : Pos} {v : Value} {Q : Value → Shared → Prop} (hn : s.heap.Ns env.locals m) (hv : m x = some v) (h : Q v s)
    (hk : env.scope.kind = .function) (hl : env.kindOf x = some .local) (hd : (x == ("__debug__" : Str)) = false) : wpAny M A (eval (.Name x pos) env) Q E s := wpAny_Name (wpAny_loadName_local hk hl hn hv h) hd

/-- further stores: the dict is there -/
theorem stores_old (T : ExcTxt prog K C fI fs) {env : Env} {x t1 dx : Addr} (hk : env.scope.kind = .function) {N : Str → Option Value} (hself : N "self" = some (.ref x)) (hls : env.kindOf "self" = some .local) :
    ∀ (gs : List Str) (ss : List Stmt) (s : Shared) (mA : Str → Option Value) (nl : List Str) {Q : Flow → Shared → Prop}, Stores gs ss → (∀ f ∈ gs, f ∈ fs ∧ env.kindOf f = some .local ∧ ∃ v, N f = some v) → K.In s.heap → s.heap.Ns env.locals N → env.locals ≠ x → env.locals ≠ dx →
    s.heap.get? x = some ({ cls := .ref C, dict := some dx, data := .fields #[.ref t1, .none, .none, .none, .bool false, .none] } : Obj) → s.heap.Ns1 dx mA → Within mA nl → nl.length + gs.length ≤ 1000 → K.lookup dx = none → dx ≠ x → gs.Nodup →
    (∀ h' tk mB, (∀ b o, b ≠ dx → s.heap.get? b = some o → h'.get? b = some o) → h'.Ns1 dx mB → (∀ f ∈ gs, mB f = N f) → (∀ f, f ∉ gs → mB f = mA f) → Q .next { s with heap := h', toks := tk }) →
    wpAny (model prog w) A (execs ss env) Q E s := by
  obtain ⟨nm, q, N0, bs, bm, sn, sub, ab, col, dd, k0, k1, k2, k3, k5, hC, hbm⟩ := T.cls
  have hcl : clsIn K C = some { name := nm, bases := bs, mro := .ref C :: bm, ns := N0, qualname := q, hasDict := true, slotNames := sn, subclasses := sub, abstract := ab, collection := col, hasDel := false } := by unfold clsIn; rw [hC] <;> rfl
  intro gs
  induction gs with
  | nil =>
    intro ss s mA nl Q hS _ _ _ _ _ _ hn _ _ _ _ _ hq
    cases hS
    obtain ⟨hp, g, d, t, os⟩ := s
    exact wpAny_execs_nil (hq hp t mA (fun _ _ _ e => e) hn (fun _ h => absurd h List.not_mem_nil) fun _ _ => rfl)
  | cons f gs ih =>
    intro ss s mA nl Q hS hf hKI hns hLx hLd hx hn hw hz hKd hdx hnd hq
    cases hS with
    | cons hS' =>
      obtain ⟨hfm, hfl, v, hv⟩ := hf f List.mem_cons_self
      obtain ⟨oD, _, _, hoD, _, _⟩ := hn.count hw
      refine wpAny_execs_cons (plainObj_wpAny_Assign_Attribute ?_)
      refine ldE hns hv (ldE hns hself ?_ hk hls (T.nb _ List.mem_cons_self)) hk hfl (T.nb _ (List.mem_cons_of_mem _ hfm))
      obtain ⟨hp, g, d, t, os⟩ := s
      refine set_plain hKI (ox := { cls := .ref C, dict := some dx, data := .fields #[.ref t1, .none, .none, .none, .bool false, .none] }) (od := some oD) ⟨hx, rfl, rfl, hoD⟩ T.sa ?_
      refine PySem.OEX.osa_old hKI hx hn hw (by simp at hz; omega) hcl (show refsVE (.ref C :: bm) = true from hbm) rfl (T.noN f hfm) (fun h' tk' k hn' => ?_)
      have kK : K.In h' := fun a o e => k a o (fun z => by rw [z, hKd] at e; cases e) (hKI a o e)
      have hns' : h'.Ns env.locals N := by
        obtain ⟨o, es, ep, ho, hr⟩ := hns
        exact ⟨o, es, ep, k _ _ hLd ho, hr⟩
      refine ih _ ⟨h', g, d, tk', os⟩ (fun y => if y = f then some v else mA y) (f :: nl) hS' (fun f' hf' => hf f' (List.mem_cons_of_mem _ hf')) kK hns' hLx hLd (k _ _ hdx.symm hx) hn' (Within.cons f v hw) (by simp at hz ⊢; omega) hKd hdx (List.nodup_cons.mp hnd).2 ?_
      intro h2 tk2 mB k2 hnB hB hB'
      refine hq h2 tk2 mB (fun b o hb e => k2 b o hb (k b o hb e)) hnB (fun f' hf' => ?_) fun f' hf' => ?_
      · rcases List.mem_cons.mp hf' with e | hf'
        · subst e
          rw [hB' _ (List.nodup_cons.mp hnd).1, if_pos rfl, hv]
        · exact hB f' hf'
      · rw [hB' f' (fun z => hf' (List.mem_cons_of_mem _ z)), if_neg (fun z => hf' (by rw [z]; exact List.mem_cons_self))]

/-- super().__init__('m') called: the built-in's part -/
theorem call_init {u x t0 : Addr} {rest : List Value} {s : Shared} {Q : Value → Shared → Prop} (T : ExcTxt prog K C fI fs) (X : K.In s.heap) (hu : s.heap.get? u = some (kxs_mw "ValueError.__init__" x)) (hx : s.heap.get? x = some (excO C t0)) (hz : rest.length ≤ sizeLine)
    (hq : ∀ h' t1, (∀ b o, b ≠ x → s.heap.get? b = some o → h'.get? b = some o) → h'.get? x = some (excO C t1) → Q .none { s with heap := h' }) : wpAny (model prog w) A (call (.ref u) rest) Q E s := by
  obtain ⟨nm, q, N0, bs, bm, sn, sub, ab, col, dd, k0, k1, k2, k3, k5, hC, hbm⟩ := T.cls
  obtain ⟨hh, g, d, tk, os⟩ := s
  refine wpAny_call (codeAny_of_tree ?_)
  show wpAny _ A.in1 (callAny (.ref u) ⟨rest, []⟩) _ _ _
  simp only [callAny]
  refine wpAny_bind (wpAny_load hu ?_)
  simp only [kxs_mw, show (Value.type "method-wrapper" == Value.type "method" || Value.type "method-wrapper" == Value.type "builtin_function_or_method" || Value.type "method-wrapper" == Value.type "method-wrapper") = true by decide, if_true]
  refine KFB.if_so (by decide) ?_
  refine wpAny_bind (check_bound_init F.excBase_ValueError.toExcCallFacts (X _ _ hC) hx rfl ?_)
  refine wpAny_bind (wpAny_pure (wpAny_pure ?_))
  refine ⟨plainId_quiet F.excBase_ValueError.init.plain _, codeAny_builtin F.excBase_ValueError.initEntry ?_⟩
  exact exc_init_tree (cls := .ref C) (t0 := t0) (dv := none) (c2 := .none) (c3 := .none) (b4 := .bool false) hx hz fun h' k e' _ => hq h' _ k e'

theorem exc_init (T : ExcTxt prog K C fI fs) {x t0 : Addr} {vs : List Value} {s : Shared} {mg mb : Str → Option Value} (hfs : fs ≠ []) (hlen : vs.length = fs.length) (X : K.In s.heap) (hlim : s.heap.NoLimit) (hg : s.heap.Ns mainGlobals mg) (hb : s.heap.Ns builtinsNs mb) (hbs : mb "super" = some (.type "super")) (hx : s.heap.get? x = some (excO C t0)) (hnx : K.lookup x = none) (hroom : A.depth < recursionLimit)
    (hq : ∀ h' tk, InitEnd s.heap h' x C fs vs → R (.ok (.ret .none)) { s with heap := h', toks := tk }) :
    codeAny (model prog w) A (.call (.ref fI) ⟨.ref x :: vs, []⟩) R s := by
  obtain ⟨qual, params, body, scope, oc, od, doc, pm, an, cda, ct, cc, osl, ccl, cdd, cvs, ccs, file, tf, cl, cld, csl, ar, ho, hcd, hcda, hc2, hfile, hcell, ⟨m, j, p0, p1, p2, p3, p4, p5, ss, rfl, hpl, hS⟩, har, hself, htop, hsu, hcls, hnc, hloc, hco, hgen, hk, hbind⟩ := T.fn
  obtain ⟨nm, q, N0, bs, bm, sn, sub, ab, col, dd, k0, k1, k2, k3, k5, hC, hbm⟩ := T.cls
  have hcl : clsIn K C = some { name := nm, bases := bs, mro := .ref C :: bm, ns := N0, qualname := q, hasDict := true, slotNames := sn, subclasses := sub, abstract := ab, collection := col, hasDel := false } := by unfold clsIn; rw [hC] <;> rfl
  refine ks_codeAny_call_defAt (binds := (("self" : Str) :: fs).zip (.ref x :: vs)) hroom (X _ _ ho) rfl hlim (codeRec_of X hcd) rfl (BindsTo.of_eq (hbind _ (by simp [hlen]))) hnc (fun y hy => hloc _ (List.of_mem_zip (show (y.1, y.2) ∈ _ from hy)).1) (fun h₀ hns hk₀ => ?_) hco hgen hk
  have X0 : K.In h₀ := X.keeps hk₀
  have nself : (((("self" : Str) :: fs).zip (Value.ref x :: vs)).reverse).lookup ("self" : Str) = some (Value.ref x) := lookup_zip (i := 0) T.nd rfl rfl
  have nfld : ∀ (i : Nat) (f : Str) (v : Value), fs[i]? = some f → vs[i]? = some v → (((("self" : Str) :: fs).zip (Value.ref x :: vs)).reverse).lookup f = some v := fun i f v h1 h2 => lookup_zip (i := i + 1) T.nd (by simpa using h1) (by simpa using h2)
  have hx0 := hk₀ _ _ hx
  have hLs : s.heap.objs.size ≠ x := Nat.ne_of_gt (Heap.lt_size hx)
  have xC : x ≠ C := fun z => by rw [z] at hnx; rw [hC] at hnx; cases hnx
  -- super().__init__('m')
  refine ks_wpAt_execs_cons (ks_wpAt_Expr_any (ks_wpAt_MethodCall ?_ (mcall_plain hpl)) (quiet_of hk) rfl)
  refine ks_wpAt_super_base (env := callEnv (ksFn "__init__" qual params _ scope .none .none doc pm an (.ref cda) ct cc) s.heap.objs.size fI) hsu hcls (by decide) rfl (X0 _ _ ho) rfl har rfl (X0 _ _ hcda) rfl hc2 hfile htop ?_
  refine ks_loadName_global hk hsu (loadGlobal_builtin (env := callEnv (ksFn "__init__" qual params _ scope .none .none doc pm an (.ref cda) ct cc) s.heap.objs.size fI) (hg.keeps hk₀) (mg_none_of X hg T.gs) (hb.keeps hk₀) hbs ⟨rfl, ?_⟩)
  refine wpAny_loadName_free hk hcls rfl ⟨_, X0 _ _ hcell, rfl⟩ ?_
  refine wpAny_loadName_local hk (by rw [hself]; exact hloc _ List.mem_cons_self) hns (by rw [hself]; exact nself) ?_
  refine ks_wpAny_isType_cls (X0 _ _ hC) rfl ⟨rfl, ?_⟩
  refine ks_wpAny_call_super (X0 _ _ hC) rfl hx0 rfl (fun c e => by cases e) (looks_mroIn X0 (show mroIn K C (.ref C) = some true from ?_)) (fun h1 e1 k1' => ?_)
  · unfold mroIn
    rw [hcl, Option.bind_some]
    simp
  have X1 : K.In h1 := X0.keeps k1'
  have hx1 := k1' _ _ hx0
  unfold ks_superIn at *
  have hsu' := T.su
  unfold ks_superIn at hsu'
  rw [hcl] at hsu'
  have hI : Looks (model prog w) h1 (isInstance (.ref x) (.type "ValueError")) true := fun A Q E s' k q => wpAny_bind (wpAny_typeOf_ref (k _ _ hx1) (looks_subIn X1 T.vE A Q E s' k q))
  refine kxs_getMethod kxs_ValueError e1 (looks_opaque X1 T.op) (l₀ := .ref C :: bm) (fun A Q E s k q => wpAny_bind ((looks_clsIn X1 hcl) A _ E s k (wpAny_pure q))) rfl X1 hsu' hI xC (by decide) ?_
  have hu : (h1.push (kxs_mw "ValueError.__init__" x)).get? h1.objs.size = some (kxs_mw "ValueError.__init__" x) := Heap.get?_push_at rfl rfl
  have k2' : ∀ b o, h1.get? b = some o → (h1.push (kxs_mw "ValueError.__init__" x)).get? b = some o := fun b o e => Heap.get?_push_of_some _ e
  refine callWith1 (i := "ValueError.__init__") (x := x) ?_
  refine spl1 (Calls.Constant_str ⟨hu, ?_⟩)
  refine call_init T (X1.keeps k2') hu (k2' _ _ hx1) (by rw [sizeLine_eq]; simp) fun h2 t1 k3' hx2 => ?_
  have KX2 : K.In h2 := fun a o e => k3' a o (fun z => by rw [z, hnx] at e; cases e) (k2' _ _ (X1 a o e))
  refine wpAt_of_wpAny ?_
  -- the stores
  cases hS with
  | nil => exact absurd rfl hfs
  | @cons f gs ss' q1 q2 q3 q4 hS' =>
    have hLn : ∀ {b o}, s.heap.get? b = some o → b ≠ x → h2.get? b = some o := fun {b o} e hb => k3' b o hb (k2' _ _ (k1' _ _ (hk₀ _ _ e)))
    have hns2 : h2.Ns s.heap.objs.size (fun y => ((("self" : Str) :: (f :: gs)).zip (.ref x :: vs)).reverse.lookup y) := by
      obtain ⟨o, es, ep, hoo, hr⟩ := hns
      exact ⟨o, es, ep, k3' _ _ hLs (k2' _ _ (k1' _ _ hoo)), hr⟩
    obtain ⟨v, vs', rfl⟩ : ∃ v vs', vs = v :: vs' := by
      cases vs with
      | nil => simp at hlen
      | cons v vs' => exact ⟨v, vs', rfl⟩
    refine wpAny_execs_cons (plainObj_wpAny_Assign_Attribute ?_)
    refine ldE (env := callEnv (ksFn "__init__" qual params _ scope .none .none doc pm an (.ref cda) ct cc) s.heap.objs.size fI) hns2 (nfld 0 f v rfl rfl) (ldE (env := callEnv (ksFn "__init__" qual params _ scope .none .none doc pm an (.ref cda) ct cc) s.heap.objs.size fI) hns2 nself ?_ hk (hloc _ List.mem_cons_self) (T.nb _ List.mem_cons_self)) hk (hloc _ (by simp)) (T.nb _ (by simp))
    refine set_plain KX2 (ox := excO C t1) (od := none) ⟨hx2, rfl, rfl, trivial⟩ T.sa ?_
    refine exc_osa KX2 hx2 hcl (show refsVE (.ref C :: bm) = true from hbm) rfl (T.noN f (by simp)) (fun h3 tk3 dx k4' dn dne hx3 hn3 => ?_)
    have sz : ∀ {b o}, h2.get? b = some o → b ≠ dx := fun {b o} e => Nat.ne_of_lt (Nat.lt_of_lt_of_le (Heap.lt_size e) dn)
    have hKd : K.lookup dx = none := by
      cases e : K.lookup dx with
      | none => rfl
      | some o => exact absurd rfl (sz (KX2 _ _ e))
    have KX3 : K.In h3 := fun a o e => k4' a o (fun z => by rw [z, hnx] at e; cases e) (KX2 a o e)
    have hL2 : ∃ o, h2.get? s.heap.objs.size = some o := by
      obtain ⟨o, es, ep, hoo, hr⟩ := hns2
      exact ⟨o, hoo⟩
    obtain ⟨oL, hoL⟩ := hL2
    have hns3 : h3.Ns s.heap.objs.size (fun y => ((("self" : Str) :: (f :: gs)).zip (.ref x :: (v :: vs'))).reverse.lookup y) := by
      obtain ⟨o, es, ep, hoo, hr⟩ := hns2
      exact ⟨o, es, ep, k4' _ _ hLs hoo, hr⟩
    have nd2 := (List.nodup_cons.mp (List.nodup_cons.mp T.nd).2)
    refine stores_old T (env := callEnv (ksFn "__init__" qual params _ scope .none .none doc pm an (.ref cda) ct cc) s.heap.objs.size fI) hk nself (hloc _ List.mem_cons_self) gs ss' _ _ [f] hS' (fun f' hf' => ⟨List.mem_cons_of_mem _ hf', hloc _ (by simp [hf']), ?_⟩) KX3 hns3 hLs (sz hoL) hx3 hn3 (fun y hy => ?_) ?_ hKd dne nd2.2 ?_
    · obtain ⟨i, hi⟩ := List.getElem?_of_mem hf'
      have hi2 : i < vs'.length := by
        have := (List.getElem?_eq_some_iff.mp hi).1
        simp at hlen
        omega
      exact ⟨vs'[i], nfld (i + 1) f' _ (by simpa using hi) (by simp [hi2])⟩
    · by_cases hyf : y = f
      · simp [hyf]
      · simp [hyf] at hy
    · have := T.few
      simp at this ⊢
      omega
    · intro h4 tk4 mB k5' hnB hB hB'
      refine hq h4 tk4 ⟨fun b o hb e => k5' b o (fun z => ?_) (k4' b o hb (hLn e hb)), t1, dx, k5' _ _ dne.symm hx3, ?_, dne, mB, hnB, fun i f' u h1 h2' => ?_, fun f' hf' => ?_⟩
      · exact sz (hLn e hb) z
      · have l1 : s.heap.objs.size < h2.objs.size := Heap.lt_size hoL
        exact Nat.le_of_lt (Nat.lt_of_lt_of_le l1 dn)
      · cases i with
        | zero =>
          simp at h1 h2'
          subst h1; subst h2'
          rw [hB' _ nd2.1, if_pos rfl]
        | succ i =>
          have hm : f' ∈ gs := List.mem_of_getElem? (by simpa using h1)
          rw [hB f' hm]
          exact nfld (i + 1) f' u h1 h2'
      · rw [hB' f' (fun z => hf' (List.mem_cons_of_mem _ z)), if_neg (fun z => hf' (by rw [z]; exact List.mem_cons_self))]
/-- a made exception -/
structure OwnMade (h h' : Heap) (e C d : Addr) (fs : List Str) (vs : List Value) : Prop where
  keep : ∀ b o, h.get? b = some o → h'.get? b = some o
  new : h.objs.size ≤ e
  obj : ∃ t1 : Addr, h'.get? e = some ({ cls := .ref C, dict := some d, data := .fields #[.ref t1, .none, .none, .none, .bool false, .none] } : Obj)
  dbig : h.objs.size ≤ d
  dne : d ≠ e
  ns : ∃ mA, h'.Ns1 d mA ∧ (∀ (i : Nat) (f : Str) (v : Value), fs[i]? = some f → vs[i]? = some v → mA f = some v) ∧ ∀ f, f ∉ fs → mA f = none
theorem exc_made (T : ExcTxt prog K C fI fs) {vs : List Value} {s : Shared} {mg mb : Str → Option Value} (hfs : fs ≠ []) (hlen : vs.length = fs.length) (X : K.In s.heap) (hlim : s.heap.NoLimit) (hg : s.heap.Ns mainGlobals mg) (hb : s.heap.Ns builtinsNs mb) (hbs : mb "super" = some (.type "super")) (hroom : A.depth + 1 < recursionLimit)
    (hq : ∀ h' tk e d, OwnMade s.heap h' e C d fs vs → R (.ok (.ret (.ref e))) { s with heap := h', toks := tk }) :
    codeAny (model prog w) A (.call (.ref C) ⟨vs, []⟩) R s := by
  obtain ⟨nm, q, N, bs, bm, sn, sub, ab, col, dd, k0, k1, k2, k3, k5, hC, hbm⟩ := T.cls
  obtain ⟨hp, g, dr, tk, os⟩ := s
  have k : ∀ b o, hp.get? b = some o → ((hp.push (kdv_tup vs)).push (excO C hp.objs.size)).get? b = some o := fun b o e => Heap.get?_push_of_some _ (Heap.get?_push_of_some _ e)
  have hget : ((hp.push (kdv_tup vs)).push (excO C hp.objs.size)).get? (hp.objs.size + 1) = some (excO C hp.objs.size) := by heap_get
  have hnx : K.lookup (hp.objs.size + 1) = none := by
    cases e : K.lookup (hp.objs.size + 1) with
    | none => rfl
    | some o =>
      have z : hp.get? (hp.objs.size + 1) = some o := X _ _ e
      exact absurd (Nat.lt_of_succ_lt (Heap.lt_size z)) (Nat.lt_irrefl _)
  have hsz : vs.length ≤ sizeLine := by
    have := T.few
    rw [hlen, sizeLine_eq]
    omega
  refine call_own F.excBase_ValueError (fun X => refsVE_contains X bm hbm) (X _ _ hC) (looks_findIn X T.iC) (fun self => bind_fn X self T.tI) hsz ?_
  refine exc_init (s := ⟨(hp.push (kdv_tup vs)).push (excO C hp.objs.size), g, dr, tk, os⟩) T hfs hlen (X.keeps k) (hlim.keeps k) (hg.keeps k) (hb.keeps k) hbs hget hnx ?_ fun h' tk' IE => ?_
  · show A.depth + 1 < recursionLimit
    exact hroom
  · obtain ⟨k', t1, dx, hx, dn, dne, mA, hn, hv⟩ := IE
    have old : ∀ b o, hp.get? b = some o → h'.get? b = some o := fun b o e => k' b o (Nat.ne_of_lt (Nat.lt_succ_of_lt (Heap.lt_size e))) (k b o e)
    have z : hp.objs.size + 1 + 1 ≤ dx := by
      first
        | (simpa only [Heap.size_push] using dn)
        | exact dn
        | (have q := dn; rw [Heap.size_push, Heap.size_push] at q; exact q)
    exact ⟨rfl, hq h' tk' (hp.objs.size + 1) dx ⟨old, Nat.le_succ _, ⟨t1, hx⟩, Nat.le_trans (Nat.le_trans (Nat.le_succ _) (Nat.le_succ _)) z, dne, mA, hn, hv⟩⟩
end
end LkX

namespace Lk
open PySem PySem.Spec PyProof.Rows L2
abbrev St := L2.St

/-! ### raise C(e, ..) -/
/-- C(e, ..): the new exception's own dict at d -/
def tMkX (C : Addr) (fs : List Str) (ta : TA) : St → Hp → XK → Prop := fun σ H Q => ta σ H fun vs H1 => vs.length = fs.length ∧ ∀ d, H1 d = none → Q (.ref C) (some d) (upd H1 d (.xd (fs.zip vs)))
theorem zip_rel : ∀ {fs : List Str} {vs : List V} {us : List Value} {mA : Str → Option Value}, Vals vs us → vs.length = fs.length → (∀ (i : Nat) (f : Str) (v : Value), fs[i]? = some f → us[i]? = some v → mA f = some v) → (∀ f, f ∉ fs → mA f = none) → fs.Nodup → ∀ f, RelO ((fs.zip vs).lookup f) (mA f) := by
  intro fs
  induction fs with
  | nil =>
    intro vs us mA r hl h hn hd f
    rw [hn f List.not_mem_nil]
    exact True.intro
  | cons g fs ih =>
    intro vs us mA r hl h hn hd f
    cases r with
    | nil => simp at hl
    | @cons x u vs us rx rr =>
      rw [List.zip_cons_cons, lookup_put]
      by_cases hfg : f = g
      · rw [if_pos hfg, hfg, h 0 g u rfl rfl]
        exact rx
      · rw [if_neg hfg]
        have q := ih (mA := fun y => if y = g then none else mA y) rr (by simpa using hl) (fun i f' v' h1 h2 => by
            rw [if_neg (fun z => (List.nodup_cons.mp hd).1 (by rw [← z]; exact List.mem_of_getElem? h1))]
            exact h (i + 1) f' v' (by simpa using h1) (by simpa using h2)) (fun f' hf' => by
            by_cases z : f' = g
            · rw [if_pos z]
            · rw [if_neg z]
              exact hn f' (fun y => by rcases List.mem_cons.mp y with y | y; exact z y; exact hf' y)) (List.nodup_cons.mp hd).2 f
        rw [if_neg hfg] at q
        exact q
section
variable {X : Cx} {C fI : Addr} {fs : List Str} {e : Expr} {es : List Expr} {ta : TA} {x : Str} {p pos : Pos} {k : Nat}
theorem made_at {pins : List (Addr × Obj)} {σ : St} {H1 : Hp} {s1 : Shared} {us : List Value} {vs : List V} {Q : XK} {A : Around} {E : Value → Shared → Prop} (T : LkX.ExcTxt X.prog X.K C fI fs) (I1 : Inv X pins σ H1 s1) (r1 : Vals vs us) (hlen : vs.length = fs.length) (hfs : fs ≠ []) (hroom : A.depth + 1 < recursionLimit)
    (q : ∀ d, H1 d = none → Q (.ref C) (some d) (upd H1 d (.xd (fs.zip vs)))) : wpAny (model X.prog X.w) A (call (.ref C) us) (L2N.MkP X pins σ Q) E s1 := by
  obtain ⟨mb, hb1, hb2⟩ := I1.mod.blt
  have hul : us.length = fs.length := by rw [← r1.length]; exact hlen
  refine wpAny_call (LkX.exc_made T hfs hul I1.kIn I1.nolimit (I1.mod.glob.keeps I1.bk) (hb1.keeps I1.bk) ((hb2 "super" (by decide)).trans (by decide +kernel)) hroom fun h' tk' e d M => ?_)
  obtain ⟨hp, g, dr, tk, os⟩ := s1
  show L2N.MkP X pins σ Q (.ref e) ⟨h', g, dr, tk', os⟩
  obtain ⟨t1, hoe⟩ := M.obj
  obtain ⟨mA, hns, hv, hno⟩ := M.ns
  obtain ⟨G', g1, g2⟩ := restrict h' fun b => decide (b ≠ e)
  have gk : ∀ b, b ≠ e → G'.get? b = h'.get? b := fun b hb => g1 b (decide_eq_true hb)
  have ge : G'.get? e = none := g2 e (by simp)
  have old : ∀ b o, hp.get? b = some o → G'.get? b = some o := fun b o q => (gk b (Nat.ne_of_lt (Nat.lt_of_lt_of_le (Heap.lt_size q) M.new))).trans (M.keep b o q)
  have ob : ObjOk X.prog X.w (upd H1 d (.xd (fs.zip vs))) G' d (.xd (fs.zip vs)) :=
    ⟨_, hns.at (fun o q => (gk d M.dne).trans q), zip_rel r1 hlen hv hno (List.nodup_cons.mp T.nd).2⟩
  have J : Inv X pins σ (upd H1 d (.xd (fs.zip vs))) ⟨G', g, dr, tk', os⟩ := I1.laid (t' := tk') old M.dbig ob
  refine ⟨e, _, _, ⟨G', g, dr, tk', os⟩, _, .ref C, some d, rfl, J, fun b o q => ?_, ge, hoe, ⟨rfl, rfl, fun vs hvs => ?_⟩, rfl, rfl, ?_, rfl, I1.bare, raises_own T.exC T.tyC, q d (I1.hok.fresh M.dbig)⟩
  · by_cases hb : b = e
    · have q' : G'.get? b = some o := q
      rw [hb, ge] at q'; cases q'
    · exact (gk b hb).symm.trans q
  · cases hvs
    rfl
  · rw [upd_ne (Ne.symm M.dne)]
    exact I1.hok.fresh M.new
theorem pmk_own (T : LkX.ExcTxt X.prog X.K C fI fs) (hfs : fs ≠ []) (hr : Room k X.A) (hm : X.mg x = some (.ref C)) (ha : PA X (e :: es) ta) (hg : Gl X x) (hdb : (x == ("__debug__" : Str)) = false := by decide)
    (he : starEach (e :: es) X.env = (false, eval e X.env) :: starEach es X.env := by rfl) (hpl : (backTo pos (starEach es X.env)).any (·.1) = false := by rfl) :
    L2N.PMk X (.Call (.Name x p) (e :: es) [] pos) (tMkX C fs ta) := by
  intro pins s σ H Q I h
  refine wpAny_Call_Name_kw (ld_glob I hg hm ?_ hdb)
  refine PySem.W.callWith_K (h₀ := X.base) I.ok.mod.kin T.kC (thn (ha.run pos pins s σ H _ I h) fun us s1 ⟨vs, H1, I1, r1, hl, q1⟩ => ⟨I1.kIn, ?_⟩) he hpl
  exact made_at T I1 r1 hl hfs (by have := hr.dp; omega) q1
end
end Lk
namespace Lk
open PySem PySem.Spec PyProof.Rows L2

/-! ### defs as they are called -/
/-- the def at f keeps sp, by some code -/
def FnA (P : Program) (w : World) (K : PySem.W.Frag) (mg : Str → Option Value) (base : Heap) (k : Nat) (f : Addr) (ps : List Str) (sp : Sp) : Prop :=
  ∃ fd, FnOk P w K mg base (L2N.CX P w) k f fd ps sp ∧ Binds K fd ps []
def FnHA (P : Program) (w : World) (K : PySem.W.Frag) (mg : Str → Option Value) (base : Heap) (k : Nat) (f : Addr) (ps : List Str) (sp : Sp) : Prop :=
  ∃ fd, L2H.FnH P w K mg base (L2N.CX P w) k f fd ps sp ∧ Binds K fd ps []
/-- the module's name x holds the def at f -/
structure Nm (K : PySem.W.Frag) (mg : Str → Option Value) (x : Str) (f : Addr) : Prop where
  m : mg x = some (.ref f)
  k : PySem.W.keepIn K (.ref f) = true
theorem takes0 {X : Cx} : L2N.Takes X (fun _ _ _ _ => False) := fun _ _ x => by
  obtain ⟨_, _, _, _, _, _, _, _, _, _, _, _, _, _, _, _, z⟩ := x
  exact z.elim
section
variable {X : Cx} {k : Nat} {f : Addr} {ps : List Str} {sp : Sp} {W : WX} {x : Str} {p pos : Pos} {e : Expr} {es : List Expr} {t : TA}
theorem pe_callA (G : FnA X.prog X.w X.K X.mg X.base k f ps sp) (hr : Room k X.A) (hm : Nm X.K X.mg x f) (tk : L2N.Takes X W)
    (ha : PA X (e :: es) t) (hg : Gl X x := by rfl) (hdb : (x == ("__debug__" : Str)) = false := by decide) (he : starEach (e :: es) X.env = (false, eval e X.env) :: starEach es X.env := by rfl) (hpl : (backTo pos (starEach es X.env)).any (·.1) = false := by rfl) :
    PE X (.Call (.Name x p) (e :: es) [] pos) (tCallS sp (WE W) t) := by
  obtain ⟨fd, F, b⟩ := G
  exact pe_callS F hr hg hm.m hm.k b (fun σ => L2N.passAt tk σ) ha hdb he hpl
theorem pe_callHA (G : FnHA X.prog X.w X.K X.mg X.base k f ps sp) (hr : L2H.RoomH k X.A) (hc : L2H.HotC X) (hm : Nm X.K X.mg x f)
    (ha : PA X (e :: es) t) (hg : Gl X x := by rfl) (hdb : (x == ("__debug__" : Str)) = false := by decide) (he : starEach (e :: es) X.env = (false, eval e X.env) :: starEach es X.env := by rfl) (hpl : (backTo pos (starEach es X.env)).any (·.1) = false := by rfl) :
    PE X (.Call (.Name x p) (e :: es) [] pos) (tCallS sp (fun _ => E0) t) := by
  obtain ⟨fd, F, b⟩ := G
  exact L2H.pe_callH F hr hc hg hm.m hm.k b (fun σ => L2N.passAt takes0 σ) ha hdb he hpl
end
section
variable {P : Program} {w : World} {K : PySem.W.Frag} {mg : Str → Option Value} {base : Heap}
/-- a def's body, raising or not -/
theorem FnA.of {x qual : Str} {st : Stmt} {f : Addr} {fd : FuncData} {N ps : List Str} {k : Nat} {sp : Sp} (F : Fun K x qual st f fd) (S : FnScope N ps (defScope st)) (b : Binds K fd ps []) (len : ∀ vs H Q E, sp vs H Q E → vs.length = ps.length)
    (hbody : ∀ (cdv : Value) (A : Around) (outer : List Env) (s : Shared) (H : Hp) (vs : List V) (Q : VK) (E : XK), Room k (A.deeper (envOfC qual (defScope st) s.heap.objs.size f cdv)) → L2N.Takes (cxOf (L2N.CX P w) P w K mg base N qual (defScope st) f cdv A outer s H E) (fun cls d _ H' => E cls d H') →
      PassesOwn (model P w) (cxOf (L2N.CX P w) P w K mg base N qual (defScope st) f cdv A outer s H E).A (cxOf (L2N.CX P w) P w K mg base N qual (defScope st) f cdv A outer s H E).env (cxOf (L2N.CX P w) P w K mg base N qual (defScope st) f cdv A outer s H E).xe → sp vs H Q E →
      ∃ t, PSs (cxOf (L2N.CX P w) P w K mg base N qual (defScope st) f cdv A outer s H E) (defBody st) t ∧ t { nx := fun _ H' => Q .non H', rt := Q } (start N vs) H) : FnA P w K mg base (k + 1) f ps sp := by
  obtain ⟨oc, od, kV, doc, pm, an, cdv, ct, osl, rfl, lk, hcd⟩ := F.ex
  exact ⟨_, fn_of lk hcd S len fun A outer s H vs Q E hr hsp => hbody cdv A outer s H vs Q E hr (L2N.takes_of rfl rfl rfl rfl) (passes_of rfl) hsp, b⟩
theorem FnHA.of {x qual : Str} {st : Stmt} {f : Addr} {fd : FuncData} {N ps : List Str} {k : Nat} {sp : Sp} (F : Fun K x qual st f fd) (S : FnScope N ps (defScope st)) (b : Binds K fd ps []) (len : ∀ vs H Q E, sp vs H Q E → vs.length = ps.length)
    (hbody : ∀ (cdv : Value) (A : Around) (outer : List Env) (s : Shared) (H : Hp) (vs : List V) (Q : VK) (E : XK) (p : Addr × Obj), L2H.Hot1 A p → L2H.RoomH k (A.deeper (envOfC qual (defScope st) s.heap.objs.size f cdv)) → L2H.HotC (L2H.cxH (L2N.CX P w) P w K mg base N qual (defScope st) f cdv A outer s H E p) →
      PassesOwn (model P w) (L2H.cxH (L2N.CX P w) P w K mg base N qual (defScope st) f cdv A outer s H E p).A (L2H.cxH (L2N.CX P w) P w K mg base N qual (defScope st) f cdv A outer s H E p).env (L2H.cxH (L2N.CX P w) P w K mg base N qual (defScope st) f cdv A outer s H E p).xe → sp vs H Q E →
      ∃ t, PSs (L2H.cxH (L2N.CX P w) P w K mg base N qual (defScope st) f cdv A outer s H E p) (defBody st) t ∧ t { nx := fun _ H' => Q .non H', rt := Q } (start N vs) H) : FnHA P w K mg base (k + 1) f ps sp := by
  obtain ⟨oc, od, kV, doc, pm, an, cdv, ct, osl, rfl, lk, hcd⟩ := F.ex
  exact ⟨_, L2H.fn_ofH lk hcd S len fun A outer s H vs Q E p hot hr hsp => hbody cdv A outer s H vs Q E p hot hr ⟨p, ⟨hot.1, hot.2⟩, List.mem_cons_self⟩ (passes_of rfl) hsp, b⟩
end

/-! ### heaps -/
/-- all that was tracked stands, but for ms -/
def Kp (ms : List Addr) (H H' : Hp) : Prop := ∀ a o, H a = some o → a ∉ ms → H' a = some o
theorem Kp.refl {ms : List Addr} {H : Hp} : Kp ms H H := fun _ _ h _ => h
theorem Kp.at {ms : List Addr} {H H' : Hp} {a : Addr} {o : HO} (k : Kp ms H H') (h : H a = some o) (n : a ∉ ms) : H' a = some o := k a o h n
theorem Kp.at0 {H H' : Hp} {a : Addr} {o : HO} (k : Kp [] H H') (h : H a = some o) : H' a = some o := k a o h List.not_mem_nil
theorem Kp.trans {ms : List Addr} {H H1 H2 : Hp} (a : Kp ms H H1) (b : Kp ms H1 H2) : Kp ms H H2 := fun c o h n => b c o (a c o h n) n
theorem Kp.trans0 {ms : List Addr} {H H1 H2 : Hp} (a : Kp ms H H1) (b : Kp [] H1 H2) : Kp ms H H2 := fun c o h n => b c o (a c o h n) List.not_mem_nil
theorem Kp.mono {ms ns : List Addr} {H H1 : Hp} (a : Kp ms H H1) (h : ∀ x ∈ ms, x ∈ ns) : Kp ns H H1 := fun c o e n => a c o e (fun z => n (h c z))
theorem Kp.new {ms : List Addr} {H H1 : Hp} {p : Addr} {o : HO} (k : Kp ms H H1) (h : H1 p = none) : Kp ms H (upd H1 p o) := fun a u e n => by
  rw [upd_ne (ne_of_none (k a u e n) h)]
  exact k a u e n
theorem Kp.mut {ms : List Addr} {H H1 : Hp} {p : Addr} {o : HO} (k : Kp ms H H1) (h : p ∈ ms) : Kp ms H (upd H1 p o) := fun a u e n => by
  rw [upd_ne (fun z => n (by rw [z]; exact h))]
  exact k a u e n
/-- an object that was not there at the beginning is changed -/
theorem Kp.own {ms : List Addr} {H H1 : Hp} {p : Addr} {o : HO} (k : Kp ms H H1) (h : H p = none) : Kp ms H (upd H1 p o) := fun a u e n => by
  rw [upd_ne (ne_of_none e h)]
  exact k a u e n
theorem Kp.free {H H' : Hp} {a : Addr} (k : Kp [] H H') (h : H' a = none) : H a = none := by
  cases q : H a with
  | none => rfl
  | some o => rw [k a o q List.not_mem_nil] at h; cases h
theorem Kp.freeM {ms : List Addr} {H H' : Hp} {a : Addr} (k : Kp ms H H') (h : H' a = none) (hm : ∀ b ∈ ms, ∃ o, H' b = some o) : H a = none := by
  cases q : H a with
  | none => rfl
  | some o =>
    by_cases z : a ∈ ms
    · obtain ⟨o', e⟩ := hm a z
      rw [h] at e; cases e
    · rw [k a o q z] at h; cases h
theorem upd_get {H : Hp} {p a : Addr} {o u : HO} (n : a ≠ p) (h : H a = some u) : upd H p o a = some u := by rw [upd_ne n]; exact h
theorem upd_nil {H : Hp} {p a : Addr} {o : HO} (h : upd H p o a = none) : H a = none := by
  unfold upd at h
  split at h
  · cases h
  · exact h
theorem upd_nel {H : Hp} {p a : Addr} {o : HO} (h : upd H p o a = none) : a ≠ p := fun z => by
  rw [z, upd_same] at h; cases h

/-! ### lists under a map -/
theorem map_getD {α : Type} [Inhabited α] {f : α → V} {xs : List α} {i : Nat} (h : i < xs.length) : (xs.map f)[i]? = some (f (xs.getD i default)) := by
  rw [List.getElem?_map, List.getElem?_eq_getElem h]
  simp [List.getD, List.getElem?_eq_getElem h]
theorem getD_some {α : Type} [Inhabited α] {xs : List α} {i : Nat} (h : i < xs.length) : xs[i]? = some (xs.getD i default) := by
  rw [List.getElem?_eq_getElem h]
  simp [List.getD, List.getElem?_eq_getElem h]
theorem atI_pos {α : Type} {xs : List α} {i : Int} {v : α} (h0 : 0 ≤ i) (h : xs[i.toNat]? = some v) : atI xs i = some v := by
  have e : i = ((i.toNat : Nat) : Int) := by omega
  rw [e]
  exact atI_nat (by simpa using h)
theorem ixN_pos {n : Nat} {i : Int} (h0 : 0 ≤ i) (h : i.toNat < n) : ixN n i = some i.toNat := by
  unfold ixN
  rw [if_pos h0, if_pos (by omega)]
theorem map_set {α : Type} {f : α → V} {xs : List α} {i : Nat} {x : α} : (xs.map f).set i (f x) = (xs.set i x).map f := by
  rw [List.map_set]
theorem map_app {α : Type} {f : α → V} {xs : List α} {x : α} : xs.map f ++ [f x] = (xs ++ [x]).map f := by
  rw [List.map_append]; rfl

/-! ### readings by values -/
/-- a + b -/
def aAdd : R2 := fun x y H Q => rI0 (fun i j => .int (i + j)) x y H Q ∨ (∃ i j, x = .str i ∧ y = .str j ∧ i.length + j.length ≤ sizeLine ∧ Q (.str (i ++ j)) H) ∨ rCat x y H Q
/-- a * b -/
def aMul : R2 := fun x y H Q => rI CMul (fun i j => .int (i * j)) x y H Q ∨ rRep x y H Q
/-- x == y of lists of flat things -/
def aEq (K : PySem.W.Frag) : R2 := fun x y H Q => rEq x y H Q ∨ rEqD K x y H Q
def aNe (K : PySem.W.Frag) : R2 := fun x y H Q => rNe x y H Q ∨ rNeD K x y H Q
section
variable {X : Cx}
theorem o_add : OpR X (binaryOp .Add) aAdd := op_add.or (op_add_str.or op_cat)
theorem o_mul : OpR X (binaryOp .Mult) aMul := op_mul.or op_rep
theorem o_eq (hu : X.A.units + 64 < cLine) : OpR X (compareOp .Eq) (aEq X.K) := op_eq.or (op_eqD hu)
theorem o_ne (hu : X.A.units + 64 < cLine) : OpR X (compareOp .NotEq) (aNe X.K) := op_ne.or (op_neD hu)
end
section
variable {i j : Int} {a b : Str} {p q : Addr} {H : Hp} {Q : VK} {xs ys : List V} {K : PySem.W.Frag}
theorem w_addI (k : Q (.int (i + j)) H) : aAdd (.int i) (.int j) H Q := .inl ⟨i, j, rfl, rfl, k⟩
theorem w_addS (h : a.length + b.length ≤ sizeLine) (k : Q (.str (a ++ b)) H) : aAdd (.str a) (.str b) H Q := .inr (.inl ⟨a, b, rfl, rfl, h, k⟩)
theorem w_addLM {α : Type} {f : α → V} {us vs : List α} (hp : H p = some (.lst (us.map f))) (hq : H q = some (.lst (vs.map f))) (hl : us.length + vs.length ≤ sizeLine) (k : ∀ r, H r = none → Q (.ref r) (upd H r (.lst ((us ++ vs).map f)))) : aAdd (.ref p) (.ref q) H Q :=
  .inr (.inr ⟨p, q, _, _, rfl, rfl, hp, hq, by simpa using hl, fun r hr => by rw [← List.map_append]; exact k r hr⟩)
theorem w_addL (hp : H p = some (.lst xs)) (hq : H q = some (.lst ys)) (hl : xs.length + ys.length ≤ sizeLine) (k : ∀ r, H r = none → Q (.ref r) (upd H r (.lst (xs ++ ys)))) : aAdd (.ref p) (.ref q) H Q :=
  .inr (.inr ⟨p, q, _, _, rfl, rfl, hp, hq, hl, k⟩)
theorem w_mulI (h : CMul i j) (k : Q (.int (i * j)) H) : aMul (.int i) (.int j) H Q := .inl ⟨i, j, rfl, rfl, h, k⟩
theorem rep_map {α : Type} {f : α → V} {x : α} {n : Nat} : (List.replicate n [f x]).flatten = (List.replicate n x).map f := by
  induction n with
  | zero => rfl
  | succ n ih => rw [List.replicate_succ, List.flatten_cons, ih, List.replicate_succ]; rfl
theorem w_repI (hp : H p = some (.lst [.int i])) (h1 : -(2 ^ 63) ≤ j) (h2 : j < 2 ^ 63) (h3 : j.toNat ≤ sizeLine) (k : ∀ r, H r = none → Q (.ref r) (upd H r (.lst ((List.replicate j.toNat i).map V.int)))) : aMul (.ref p) (.int j) H Q :=
  .inr ⟨p, j, _, rfl, rfl, hp, h1, h2, by simpa using h3, fun r hr => by rw [rep_map (f := V.int)]; exact k r hr⟩
theorem w_repB {c : Bool} (hp : H p = some (.lst [.bl c])) (h1 : -(2 ^ 63) ≤ j) (h2 : j < 2 ^ 63) (h3 : j.toNat ≤ sizeLine) (k : ∀ r, H r = none → Q (.ref r) (upd H r (.lst ((List.replicate j.toNat c).map V.bl)))) : aMul (.ref p) (.int j) H Q :=
  .inr ⟨p, j, _, rfl, rfl, hp, h1, h2, by simpa using h3, fun r hr => by rw [rep_map (f := V.bl)]; exact k r hr⟩
theorem w_I0 {g : Int → Int → V} (k : Q (g i j) H) : rI0 g (.int i) (.int j) H Q := ⟨i, j, rfl, rfl, k⟩
theorem w_I {C : Int → Int → Prop} {g : Int → Int → V} (c : C i j) (k : Q (g i j) H) : rI C g (.int i) (.int j) H Q := ⟨i, j, rfl, rfl, c, k⟩
theorem w_U {g : Int → V} (k : Q (g i) H) : rU g (.int i) H Q := ⟨i, rfl, k⟩
theorem dI : decide (V.int i = V.int j) = decide (i = j) := by simp
theorem dS : decide (V.str a = V.str b) = decide (a = b) := by simp
theorem dB {c d : Bool} : decide (V.bl c = V.bl d) = decide (c = d) := by simp
theorem w_eqI (k : Q (.bl (decide (i = j))) H) : aEq K (.int i) (.int j) H Q := .inl ⟨rfl, by rw [dI]; exact k⟩
theorem w_eqS (k : Q (.bl (decide (a = b))) H) : aEq K (.str a) (.str b) H Q := .inl ⟨rfl, by rw [dS]; exact k⟩
theorem w_eqB {c d : Bool} (k : Q (.bl (decide (c = d))) H) : aEq K (.bl c) (.bl d) H Q := .inl ⟨rfl, by rw [dB]; exact k⟩
theorem w_neI (k : Q (.bl (!decide (i = j))) H) : aNe K (.int i) (.int j) H Q := .inl ⟨rfl, by rw [dI]; exact k⟩
theorem w_neS (k : Q (.bl (!decide (a = b))) H) : aNe K (.str a) (.str b) H Q := .inl ⟨rfl, by rw [dS]; exact k⟩
theorem w_neB {c d : Bool} (k : Q (.bl (!decide (c = d))) H) : aNe K (.bl c) (.bl d) H Q := .inl ⟨rfl, by rw [dB]; exact k⟩

theorem eqvAll_int : ∀ (ns ms : List Int), PyData.eqvAll (ns.map PyData.int) (ms.map PyData.int) = decide (ns = ms) := by
  intro ns
  induction ns with
  | nil => intro ms; cases ms <;> simp [PyData.eqvAll]
  | cons n ns ih =>
    intro ms
    cases ms with
    | nil => simp [PyData.eqvAll]
    | cons m ms =>
      rw [List.map_cons, List.map_cons, PyData.eqvAll, ih, PyData.eqv, Bool.eq_iff_iff]
      simp
theorem dpAllI : ∀ (ns : List Int), DpAll K H (ns.map V.int) (ns.map PyData.int)
  | [] => .nil
  | n :: ns => .cons (.int n) (dpAllI ns)
theorem shapedI (ns : List Int) : SeqAt.shaped (.list (ns.map PyData.int)) = true := by
  have h1 : ∀ ns : List Int, PyData.canLayAll0 (ns.map PyData.int) = true := by
    intro ns
    induction ns with
    | nil => rfl
    | cons n ns ih => rw [List.map_cons, PyData.canLayAll0, ih]; rfl
  have h2 : ∀ ns : List Int, PyData.depthAll (ns.map PyData.int) = 0 := by
    intro ns
    induction ns with
    | nil => rfl
    | cons n ns ih => rw [List.map_cons, PyData.depthAll, ih]; rfl
  unfold SeqAt.shaped
  rw [PyData.canLay0, h1, PyData.depth, h2]
  decide
theorem w_eqLI {ns ms : List Int} (hp : SqL K H p (ns.map V.int)) (hq : SqL K H q (ms.map V.int)) (k : Q (.bl (decide (ns = ms))) H) : aEq K (.ref p) (.ref q) H Q :=
  .inr ⟨_, _, .lst hp (dpAllI ns), .lst hq (dpAllI ms), shapedI ns, shapedI ms, by rw [PyData.eqv, eqvAll_int]; exact k⟩
theorem w_neLI {ns ms : List Int} (hp : SqL K H p (ns.map V.int)) (hq : SqL K H q (ms.map V.int)) (k : Q (.bl (!decide (ns = ms))) H) : aNe K (.ref p) (.ref q) H Q :=
  .inr ⟨_, _, .lst hp (dpAllI ns), .lst hq (dpAllI ms), shapedI ns, shapedI ms, by rw [PyData.eqv, eqvAll_int]; exact k⟩
end
/-- is None -/
def aIsN : R2 := fun x y H Q => y = .non ∧ Q (.bl (decide (x = .non))) H
def aNotN : R2 := fun x y H Q => y = .non ∧ Q (.bl (!decide (x = .non))) H
theorem o_isN {X : Cx} : OpR X (compareOp .Is) aIsN := op_isN
theorem o_notN {X : Cx} : OpR X (compareOp .IsNot) aNotN := op_notN
section
variable {i j : Int} {a b : Str} {p q : Addr} {H : Hp} {Q : VK} {xs ys : List V} {K : PySem.W.Frag} {x v : V}
theorem w_isN_n (k : Q (.bl true) H) : aIsN .non .non H Q := ⟨rfl, k⟩
theorem w_isN_i (k : Q (.bl false) H) : aIsN (.int i) .non H Q := ⟨rfl, k⟩
theorem w_isN_r (k : Q (.bl false) H) : aIsN (.ref p) .non H Q := ⟨rfl, k⟩
theorem w_isN_s (k : Q (.bl false) H) : aIsN (.str a) .non H Q := ⟨rfl, k⟩
theorem w_notN_n (k : Q (.bl false) H) : aNotN .non .non H Q := ⟨rfl, k⟩
theorem w_notN_i (k : Q (.bl true) H) : aNotN (.int i) .non H Q := ⟨rfl, k⟩
theorem w_notN_r (k : Q (.bl true) H) : aNotN (.ref p) .non H Q := ⟨rfl, k⟩
theorem w_notN_s (k : Q (.bl true) H) : aNotN (.str a) .non H Q := ⟨rfl, k⟩
/-! x[i] -/
theorem w_ixC {xs : List V} {n : Nat} (hp : H p = some (.lst xs)) (hv : xs[n]? = some v) (k : Q v H) : rIx K (.ref p) (.int (n : Int)) H Q := .inl ⟨p, _, _, v, rfl, rfl, SqL.of hp, atI_nat hv, k⟩
theorem w_ixM {α : Type} [Inhabited α] {f : α → V} {us : List α} (hp : H p = some (.lst (us.map f))) (h0 : 0 ≤ i) (hl : i.toNat < us.length) (k : Q (f (us.getD i.toNat default)) H) : rIx K (.ref p) (.int i) H Q :=
  .inl ⟨p, _, _, _, rfl, rfl, SqL.of hp, atI_pos h0 (map_getD hl), k⟩
theorem w_ixL (hp : H p = some (.lst xs)) (h0 : 0 ≤ i) (hv : xs[i.toNat]? = some v) (k : Q v H) : rIx K (.ref p) (.int i) H Q :=
  .inl ⟨p, _, _, v, rfl, rfl, SqL.of hp, atI_pos h0 hv, k⟩
theorem w_ixT (hp : H p = some (.tup xs)) (h0 : 0 ≤ i) (hv : xs[i.toNat]? = some v) (k : Q v H) : rIx K (.ref p) (.int i) H Q :=
  .inr (.inl ⟨p, _, _, v, rfl, rfl, .inl (.inl hp), atI_pos h0 hv, k⟩)
theorem w_ixS {c : Nat} (hl : a.length ≤ sizeLine) (h0 : 0 ≤ i) (hv : a.cps.toList[i.toNat]? = some c) (k : Q (.str ⟨#[c]⟩) H) : rIx K (.str a) (.int i) H Q :=
  .inr (.inr ⟨a, _, c, rfl, rfl, hl, atI_pos h0 hv, k⟩)
/-! x[i] = v -/
theorem w_setM {α : Type} {f : α → V} {us : List α} {u : α} {Q : Hp → Prop} (hp : H p = some (.lst (us.map f))) (h0 : 0 ≤ i) (hl : i.toNat < us.length) (k : Q (upd H p (.lst ((us.set i.toNat u).map f)))) : rSetL (.ref p) (.int i) (f u) H Q :=
  ⟨p, _, _, i.toNat, rfl, rfl, hp, ixN_pos h0 (by simpa using hl), by rw [map_set]; exact k⟩
theorem w_setMI {us : List Int} {u : Int} {Q : Hp → Prop} (hp : H p = some (.lst (us.map V.int))) (h0 : 0 ≤ i) (hl : i.toNat < us.length) (k : Q (upd H p (.lst ((us.set i.toNat u).map V.int)))) : rSetL (.ref p) (.int i) (.int u) H Q := w_setM hp h0 hl k
theorem w_setMB {us : List Bool} {u : Bool} {Q : Hp → Prop} (hp : H p = some (.lst (us.map V.bl))) (h0 : 0 ≤ i) (hl : i.toNat < us.length) (k : Q (upd H p (.lst ((us.set i.toNat u).map V.bl)))) : rSetL (.ref p) (.int i) (.bl u) H Q := w_setM hp h0 hl k
theorem w_setMS {us : List Str} {u : Str} {Q : Hp → Prop} (hp : H p = some (.lst (us.map V.str))) (h0 : 0 ≤ i) (hl : i.toNat < us.length) (k : Q (upd H p (.lst ((us.set i.toNat u).map V.str)))) : rSetL (.ref p) (.int i) (.str u) H Q := w_setM hp h0 hl k
theorem w_setL {u : V} {Q : Hp → Prop} (hp : H p = some (.lst xs)) (h0 : 0 ≤ i) (hl : i.toNat < xs.length) (k : Q (upd H p (.lst (xs.set i.toNat u)))) : rSetL (.ref p) (.int i) u H Q :=
  ⟨p, _, _, i.toNat, rfl, rfl, hp, ixN_pos h0 hl, k⟩
/-! methods of lists: the type is asked first -/
theorem w_tyL (hp : H p = some (.lst xs)) (k : A) : tyV K "list" (.ref p) H ∧ A := ⟨.inl ⟨rfl, _, SqL.of hp⟩, k⟩
theorem w_tyS (k : A) : tyV K "str" (.str a) H ∧ A := ⟨rfl, k⟩
theorem w_appMI {us : List Int} {u : Int} (hp : H p = some (.lst (us.map V.int))) (hl : us.length < sizeLine) (k : Q .non (upd H p (.lst ((us ++ [u]).map V.int)))) : rAppend (.ref p) [.int u] H Q := ⟨p, _, _, rfl, rfl, hp, by simpa using hl, by rw [map_app (f := V.int)]; exact k⟩
theorem w_appMS {us : List Str} {u : Str} (hp : H p = some (.lst (us.map V.str))) (hl : us.length < sizeLine) (k : Q .non (upd H p (.lst ((us ++ [u]).map V.str)))) : rAppend (.ref p) [.str u] H Q := ⟨p, _, _, rfl, rfl, hp, by simpa using hl, by rw [map_app (f := V.str)]; exact k⟩
theorem w_appMB {us : List Bool} {u : Bool} (hp : H p = some (.lst (us.map V.bl))) (hl : us.length < sizeLine) (k : Q .non (upd H p (.lst ((us ++ [u]).map V.bl)))) : rAppend (.ref p) [.bl u] H Q := ⟨p, _, _, rfl, rfl, hp, by simpa using hl, by rw [map_app (f := V.bl)]; exact k⟩
theorem w_appL {u : V} (hp : H p = some (.lst xs)) (hl : xs.length < sizeLine) (k : Q .non (upd H p (.lst (xs ++ [u])))) : rAppend (.ref p) [u] H Q := ⟨p, _, _, rfl, rfl, hp, hl, k⟩
theorem w_rev (hp : H p = some (.lst xs)) (k : Q .non (upd H p (.lst xs.reverse))) : rReverse (.ref p) [] H Q := ⟨p, _, rfl, rfl, hp, k⟩
def rInsert : V → List V → Hp → VK → Prop := fun x vs H Q => ∃ (l : Addr) (xs : List V) (i : Int) (y : V), x = .ref l ∧ vs = [.int i, y] ∧ H l = some (.lst xs) ∧ xs.length < sizeLine ∧ 0 ≤ i ∧ i < 2 ^ 63 ∧ Q .non (upd H l (.lst (xs.take i.toNat ++ [y] ++ xs.drop i.toNat)))
theorem m_insert {X : Cx} : MtR X "list.insert" rInsert := mt_insert
def insAt {α : Type} (us : List α) (n : Nat) (u : α) : List α := us.take n ++ [u] ++ us.drop n
theorem w_insMI {us : List Int} {u : Int} (hp : H p = some (.lst (us.map V.int))) (hl : us.length < sizeLine) (h0 : 0 ≤ i) (h1 : i < 2 ^ 63) (k : Q .non (upd H p (.lst ((insAt us i.toNat u).map V.int)))) : rInsert (.ref p) [.int i, .int u] H Q :=
  ⟨p, _, _, _, rfl, rfl, hp, by simpa using hl, h0, h1, by rw [← List.map_take, ← List.map_drop, map_app (f := V.int), ← List.map_append]; exact k⟩
theorem w_insMS {us : List Str} {u : Str} (hp : H p = some (.lst (us.map V.str))) (hl : us.length < sizeLine) (h0 : 0 ≤ i) (h1 : i < 2 ^ 63) (k : Q .non (upd H p (.lst ((insAt us i.toNat u).map V.str)))) : rInsert (.ref p) [.int i, .str u] H Q :=
  ⟨p, _, _, _, rfl, rfl, hp, by simpa using hl, h0, h1, by rw [← List.map_take, ← List.map_drop, map_app (f := V.str), ← List.map_append]; exact k⟩
/-! built-ins -/
def rLen (K : PySem.W.Frag) : List V → Hp → VK → Prop := fun xs H Q => ∃ x n, xs = [x] ∧ LenV K x H n ∧ Q (.int n) H
theorem b_len {X : Cx} : CallR X (.builtin "len") (rLen X.K) := call_len
theorem w_lenL (hp : H p = some (.lst xs)) (k : Q (.int xs.length) H) : rLen K [.ref p] H Q := ⟨_, _, rfl, .inl ⟨_, SqL.of hp, rfl⟩, k⟩
theorem w_lenM {α : Type} {f : α → V} {us : List α} (hp : H p = some (.lst (us.map f))) (k : Q (.int us.length) H) : rLen K [.ref p] H Q := ⟨_, _, rfl, .inl ⟨_, SqL.of hp, rfl⟩, by rw [List.length_map]; exact k⟩
theorem w_lenT (hp : H p = some (.tup xs)) (k : Q (.int xs.length) H) : rLen K [.ref p] H Q := ⟨_, _, rfl, .inr ⟨_, .inl (.inl hp), rfl⟩, k⟩
theorem w_lenS (hl : a.length ≤ sizeLine) (k : Q (.int a.length) H) : rLen K [.str a] H Q := ⟨_, _, rfl, ⟨hl, rfl⟩, k⟩
def rAbs : List V → Hp → VK → Prop := fun xs H Q => ∃ i, xs = [.int i] ∧ Q (.int (if i < 0 then -i else i)) H
theorem b_abs {X : Cx} : CallR X (.builtin "abs") rAbs := call_abs
theorem abs_nat (i : Int) : (if i < 0 then -i else i) = (i.natAbs : Int) := by split <;> omega
theorem w_abs (k : Q (.int (i.natAbs : Int)) H) : rAbs [.int i] H Q := ⟨i, rfl, by rw [abs_nat]; exact k⟩
def rMax2 : List V → Hp → VK → Prop := fun xs H Q => ∃ i j, xs = [.int i, .int j] ∧ Q (.int (if j > i then j else i)) H
def rMin2 : List V → Hp → VK → Prop := fun xs H Q => ∃ i j, xs = [.int i, .int j] ∧ Q (.int (if j < i then j else i)) H
theorem b_max2 {X : Cx} (hc : X.calm = true) : CallR X (.builtin "max") rMax2 := call_max2 hc
theorem b_min2 {X : Cx} (hc : X.calm = true) : CallR X (.builtin "min") rMin2 := call_min2 hc
theorem w_max2 (k : Q (.int (max i j)) H) : rMax2 [.int i, .int j] H Q := ⟨i, j, rfl, by rw [show (if j > i then j else i) = max i j by split <;> omega]; exact k⟩
theorem w_min2 (k : Q (.int (min i j)) H) : rMin2 [.int i, .int j] H Q := ⟨i, j, rfl, by rw [show (if j < i then j else i) = min i j by split <;> omega]; exact k⟩
def rInt1 : List V → Hp → VK → Prop := fun xs H Q => (∃ i, xs = [.int i] ∧ Q (.int i) H) ∨ ∃ k, xs = [.bl k] ∧ Q (.int (if k then 1 else 0)) H
theorem b_int {X : Cx} : CallR X (.type "int") rInt1 := call_int1
theorem w_int (k : Q (.int i) H) : rInt1 [.int i] H Q := .inl ⟨i, rfl, k⟩
def rListOf (K : PySem.W.Frag) : List V → Hp → VK → Prop := fun xs H Q => ∃ p ys, xs = [.ref p] ∧ (SqL K H p ys ∨ SqT K H p ys) ∧ ∀ l, H l = none → Q (.ref l) (upd H l (.lst ys))
theorem b_list {X : Cx} : CallR X (.type "list") (rListOf X.K) := call_list_of
theorem w_listL (hp : H p = some (.lst xs)) (k : ∀ l, H l = none → Q (.ref l) (upd H l (.lst xs))) : rListOf K [.ref p] H Q := ⟨p, _, rfl, .inl (SqL.of hp), k⟩
theorem w_listT (hp : H p = some (.tup xs)) (k : ∀ l, H l = none → Q (.ref l) (upd H l (.lst xs))) : rListOf K [.ref p] H Q := ⟨p, _, rfl, .inr (.inl (.inl hp)), k⟩
/-! isinstance -/
section
variable {n : String} {c : Bool}
theorem w_isiI (e : kitB "int" n = some c) (k : Q (.bl c) H) : rIsi K [.int i, .ty n] H Q := ⟨_, _, _, _, c, rfl, .ty n, .base (.int i), kit_ty e, k⟩
theorem w_isiB {d : Bool} (e : kitB "bool" n = some c) (k : Q (.bl c) H) : rIsi K [.bl d, .ty n] H Q := ⟨_, _, _, _, c, rfl, .ty n, .base (.bl d), kit_ty e, k⟩
theorem w_isiS (e : kitB "str" n = some c) (k : Q (.bl c) H) : rIsi K [.str a, .ty n] H Q := ⟨_, _, _, _, c, rfl, .ty n, .base (.str a), kit_ty e, k⟩
theorem w_isiN (e : kitB "NoneType" n = some c) (k : Q (.bl c) H) : rIsi K [.non, .ty n] H Q := ⟨_, _, _, _, c, rfl, .ty n, .base .non, kit_ty e, k⟩
theorem w_isiL (hp : H p = some (.lst xs)) (e : kitB "list" n = some c) (k : Q (.bl c) H) : rIsi K [.ref p, .ty n] H Q := ⟨_, _, _, _, c, rfl, .ty n, .base (.lst hp), kit_ty e, k⟩
theorem w_isiT (hp : H p = some (.tup xs)) (e : kitB "tuple" n = some c) (k : Q (.bl c) H) : rIsi K [.ref p, .ty n] H Q := ⟨_, _, _, _, c, rfl, .ty n, .base (.tup hp), kit_ty e, k⟩
end
theorem kb_ii : kitB "int" "int" = some true := by decide +kernel
theorem kb_ib : kitB "int" "bool" = some false := by decide +kernel
theorem kb_is : kitB "int" "str" = some false := by decide +kernel
theorem kb_il : kitB "int" "list" = some false := by decide +kernel
theorem kb_it : kitB "int" "tuple" = some false := by decide +kernel
theorem kb_bi : kitB "bool" "int" = some true := by decide +kernel
theorem kb_bb : kitB "bool" "bool" = some true := by decide +kernel
theorem kb_bt : kitB "bool" "tuple" = some false := by decide +kernel
theorem kb_ss : kitB "str" "str" = some true := by decide +kernel
theorem kb_si : kitB "str" "int" = some false := by decide +kernel
theorem kb_st : kitB "str" "tuple" = some false := by decide +kernel
theorem kb_sl : kitB "str" "list" = some false := by decide +kernel
theorem kb_ll : kitB "list" "list" = some true := by decide +kernel
theorem kb_lt : kitB "list" "tuple" = some false := by decide +kernel
theorem kb_li : kitB "list" "int" = some false := by decide +kernel
theorem kb_tt : kitB "tuple" "tuple" = some true := by decide +kernel
theorem kb_tl : kitB "tuple" "list" = some false := by decide +kernel
theorem kb_nt : kitB "NoneType" "tuple" = some false := by decide +kernel
theorem kb_ni : kitB "NoneType" "int" = some false := by decide +kernel
theorem kb_nl : kitB "NoneType" "list" = some false := by decide +kernel
theorem kb_ns : kitB "NoneType" "str" = some false := by decide +kernel

/-! truth, tests -/
/-- a value's truth -/
def aTru (K : PySem.W.Frag) : V → Hp → (Bool → Hp → Prop) → Prop := fun x H Q => ∃ k, TruV K x H k ∧ Q k H
def cTru (K : PySem.W.Frag) (ta : TE) : TT := fun σ H Q => ta σ H fun x H' => aTru K x H' Q
theorem pt_tru {X : Cx} {e : Expr} {ta : TE} (ha : PE X e ta) (he : ∀ whole, isTrue e X.env whole = (do let v ← whole; standAt e.pos; holding [v] (truthy v)) := by intro _; rfl) : PT X e (cTru X.K ta) := pt_truth ha he
section
variable {R : Bool → Hp → Prop} {c : Bool}
theorem w_truB (k : R c H) : aTru K (.bl c) H R := ⟨c, rfl, k⟩
theorem w_truI (k : R (i != 0) H) : aTru K (.int i) H R := ⟨_, rfl, k⟩
theorem w_truN (k : R false H) : aTru K .non H R := ⟨_, rfl, k⟩
theorem w_truS (hl : a.length ≤ sizeLine) (k : R ((a.length : Int) != 0) H) : aTru K (.str a) H R := ⟨_, ⟨hl, rfl⟩, k⟩
theorem w_truL (hp : H p = some (.lst xs)) (k : R (!xs.isEmpty) H) : aTru K (.ref p) H R := ⟨_, .inl ⟨_, SqL.of hp, rfl⟩, k⟩
theorem w_truT (hp : H p = some (.tup xs)) (k : R (!xs.isEmpty) H) : aTru K (.ref p) H R := ⟨_, .inr (.inl ⟨_, .inl (.inl hp), rfl⟩), k⟩
end
def aB (x : V) (H : Hp) (R : Bool → Hp → Prop) : Prop := ∃ k, x = .bl k ∧ R k H
def cB (t : TE) : TT := fun σ H Q => t σ H fun x H' => aB x H' Q
theorem pt_cmpA {X : Cx} {op : CmpOp} {r : R2} {e1 e2 : Expr} {ta tb : TE} {pos : Pos} (ho : OpR X (compareOp op) r) (ha : PE X e1 ta) (hb : PE X e2 tb) (hm : behindInMarks op e2 = false) : PT X (.Compare e1 [op] [e2] pos) (cB (tOp r ta tb)) := pt_cmpR ho ha hb hm
theorem pt_chainA {X : Cx} {op op' : CmpOp} {r r' : R2} {e1 e2 e3 : Expr} {ta tb tc : TE} {pos : Pos} (ho : OpR X (compareOp op) r) (ho' : OpR X (compareOp op') r') (ha : PE X e1 ta) (hb : PE X e2 tb) (hc : PE X e3 tc) (hm : lastMarks [op, op'] [e2, e3] = false := by with_unfolding_all rfl) :
    PT X (.Compare e1 [op, op'] [e2, e3] pos) (cB (tChain r r' ta tb tc)) := pt_chain ho ho' ha hb hc hm
theorem w_B {c : Bool} {R : Bool → Hp → Prop} (k : R c H) : aB (.bl c) H R := ⟨c, rfl, k⟩
end
/-! ### ifs -/
section
variable {A B : Prop} {p : Prop} [Decidable p]
theorem w_ite (h1 : p → A) (h2 : ¬p → B) : if decide p = true then A else B := by
  by_cases h : p
  · rw [if_pos (by simpa using h)]; exact h1 h
  · rw [if_neg (by simpa using h)]; exact h2 h
theorem w_iteT (h : p) (k : A) : if decide p = true then A else B := by rw [if_pos (by simpa using h)]; exact k
theorem w_iteF (h : ¬p) (k : B) : if decide p = true then A else B := by rw [if_neg (by simpa using h)]; exact k
theorem w_iteN (h1 : ¬p → A) (h2 : p → B) : if (!decide p) = true then A else B := by
  by_cases h : p
  · rw [if_neg (by simpa using h)]; exact h2 h
  · rw [if_pos (by simpa using h)]; exact h1 h
theorem w_iteNT (h : ¬p) (k : A) : if (!decide p) = true then A else B := by rw [if_pos (by simpa using h)]; exact k
theorem w_iteNF (h : p) (k : B) : if (!decide p) = true then A else B := by rw [if_neg (by simpa using h)]; exact k
theorem w_ite1 (k : A) : if true = true then A else B := by rw [if_pos rfl]; exact k
theorem w_ite0 (k : B) : if false = true then A else B := by rw [if_neg Bool.false_ne_true]; exact k
theorem w_iteb {b : Bool} (h1 : b = true → A) (h2 : b = false → B) : if b = true then A else B := by
  cases b
  · rw [if_neg Bool.false_ne_true]; exact h2 rfl
  · rw [if_pos rfl]; exact h1 rfl
theorem w_itebT {b : Bool} (h : b = true) (k : A) : if b = true then A else B := by rw [if_pos h]; exact k
theorem w_itebF {b : Bool} (h : b = false) (k : B) : if b = true then A else B := by rw [h, if_neg Bool.false_ne_true]; exact k
theorem w_itenb {b : Bool} (h1 : b = false → A) (h2 : b = true → B) : if (!b) = true then A else B := by
  cases b
  · rw [if_pos (by decide)]; exact h1 rfl
  · rw [if_neg (by decide)]; exact h2 rfl
theorem w_itenbT {b : Bool} (h : b = false) (k : A) : if (!b) = true then A else B := by rw [h, if_pos (by decide)]; exact k
theorem w_itenbF {b : Bool} (h : b = true) (k : B) : if (!b) = true then A else B := by rw [h, if_neg (by decide)]; exact k
end
/-! ### structure: what a reading says, one step -/
section
variable {σ σ' : St} {H : Hp} {Q : VK} {D : Ends} {ta tb : TE} {t u : TT} {tl tr : TA} {ts us : TS} {g : TG} {gs : TGs} {r : R2} {i : Nat} {v : V} {K : PySem.W.Frag}
theorem s_var (h : σ[i]? = some (some v)) (k : Q v H) : tVar i σ H Q := ⟨v, h, k⟩
theorem s_c (k : Q v H) : tC v σ H Q := k
theorem s_op (k : ta σ H fun x H1 => tb σ H1 fun y H2 => r x y H2 Q) : tOp r ta tb σ H Q := k
theorem s_un {r : V → Hp → VK → Prop} (k : ta σ H fun x H1 => r x H1 Q) : tUn r ta σ H Q := k
theorem s_nil {Q : List V → Hp → Prop} (k : Q [] H) : tNil σ H Q := k
theorem s_cons {Q : List V → Hp → Prop} (k : ta σ H fun x H1 => tl σ H1 fun xs H2 => Q (x :: xs) H2) : tCons ta tl σ H Q := k
theorem s_callS {sp : Sp} {E : St → XK} (k : tl σ H fun vs H1 => sp vs H1 Q (E σ)) : tCallS sp E tl σ H Q := k
theorem s_CB {r : List V → Hp → VK → Prop} (k : tl σ H fun vs H1 => r vs H1 Q) : tCB r tl σ H Q := k
theorem s_BM {T : String} {r : V → List V → Hp → VK → Prop} (k : ta σ H fun x H1 => tyV K T x H1 ∧ tl σ H1 fun xs H2 => r x xs H2 Q) : tBM K T r ta tl σ H Q := k
theorem s_BM0 {T : String} {r : V → List V → Hp → VK → Prop} (k : ta σ H fun x H1 => tyV K T x H1 ∧ r x [] H1 Q) : tBM0 K T r ta σ H Q := k
theorem s_seq (k : ts { D with nx := us D } σ H) : tSeq ts us D σ H := k
theorem s_next (k : D.nx σ H) : tNext D σ H := k
theorem s_asg (k : ta σ H fun x H1 => g x σ H1 D.nx) : tAsg ta g D σ H := k
theorem s_name {Q : St → Hp → Prop} (e : σ.set i (some v) = σ') (k : Q σ' H) : gName i v σ H Q := by
  show Q (σ.set i (some v)) H
  rw [e]; exact k
theorem s_sub {to ti : TE} {t : TSet} {Q : St → Hp → Prop} (k : to σ H fun o H1 => ti σ H1 fun i H2 => t o i v H2 fun H3 => Q σ H3) : gSub to ti t v σ H Q := k
theorem s_ret (k : ta σ H D.rt) : tRet ta D σ H := k
theorem s_retN (k : D.rt .non H) : tRetN D σ H := k
theorem s_drop (k : ta σ H fun _ H1 => D.nx σ H1) : tDrop ta D σ H := k
theorem s_ifS (k : t σ H fun b H1 => if b = true then ts D σ H1 else us D σ H1) : tIfS t ts us D σ H := k
theorem s_if (k : t σ H fun b H1 => if b = true then ta σ H1 Q else tb σ H1 Q) : tIf t ta tb σ H Q := k
theorem s_tru {Q : Bool → Hp → Prop} (k : ta σ H fun x H1 => aTru K x H1 Q) : cTru K ta σ H Q := k
theorem s_B {Q : Bool → Hp → Prop} (k : ta σ H fun x H1 => aB x H1 Q) : cB ta σ H Q := k
theorem s_and {Q : Bool → Hp → Prop} (k : t σ H fun c H1 => if c = true then u σ H1 Q else Q false H1) : tAnd t u σ H Q := k
theorem s_or {Q : Bool → Hp → Prop} (k : t σ H fun c H1 => if c = true then Q true H1 else u σ H1 Q) : tOr t u σ H Q := k
theorem s_not {Q : Bool → Hp → Prop} (k : t σ H fun c H1 => Q (!c) H1) : tNot t σ H Q := k
theorem s_andV (k : ta σ H fun x H1 => aB x H1 fun c H2 => if c = true then tb σ H2 Q else Q (.bl false) H2) : tAndV ta tb σ H Q := k
theorem s_orV (k : ta σ H fun x H1 => aB x H1 fun c H2 => if c = true then Q (.bl true) H2 else tb σ H2 Q) : tOrV ta tb σ H Q := k
theorem s_notV (k : ta σ H fun x H1 => aB x H1 fun c H2 => Q (.bl (!c)) H2) : tNotV ta σ H Q := k
theorem s_lst (k : tl σ H fun xs H1 => xs.length ≤ sizeLine ∧ ∀ p, H1 p = none → Q (.ref p) (upd H1 p (.lst xs))) : tLst tl σ H Q := k
theorem s_tup (k : tl σ H fun xs H1 => xs.length ≤ sizeLine ∧ ∀ p, H1 p = none → Q (.ref p) (upd H1 p (.tup xs))) : tTup tl σ H Q := k
theorem s_chain {r' : R2} {tc : TE} (k : ta σ H fun x H1 => tb σ H1 fun y H2 => r x y H2 fun z H3 => aB z H3 fun c H4 => if c = true then tc σ H4 fun w' H5 => r' y w' H5 Q else Q (.bl false) H4) : tChain r r' ta tb tc σ H Q := by
  unfold tChain
  have hm := k
  exact k
end
/-! ### slices -/
def rSlA (K : PySem.W.Frag) : V → Option Int → Option Int → Hp → VK → Prop := fun x lo hi H Q => rSlL K x lo hi H Q ∨ rSlS x lo hi H Q ∨ rSlT K x lo hi H Q
theorem sl_any {X : Cx} : SlR X (rSlA X.K) := sl_list.or (sl_str.or sl_tup)
theorem not_mem2 {a b : Addr} {l : List Addr} (h : a ≠ b) (h2 : a ∉ l) : a ∉ b :: l := fun z => by
  rcases List.mem_cons.mp z with z | z
  · exact h z
  · exact h2 z
theorem w_new {n : Nat} {B : Prop} (h : n ≤ sizeLine) (k : B) : n ≤ sizeLine ∧ B := ⟨h, k⟩
/-- the part of a list from lo to hi -/
def cut {α : Type} (xs : List α) (lo hi : Option Int) : List α := (xs.drop (HT.sIx xs.length 0 lo)).take (HT.sIx xs.length xs.length hi - HT.sIx xs.length 0 lo)
theorem cutV_map {α : Type} {f : α → V} {us : List α} {lo hi : Option Int} : cutV (us.map f) lo hi = (cut us lo hi).map f := by
  unfold cutV cut
  rw [List.length_map, List.map_take, List.map_drop]
section
variable {σ : St} {H : Hp} {Q : VK} {te : TE} {K : PySem.W.Frag} {p : Addr} {lo hi : Option Int} {xs : List V} {z : Str}
theorem s_sl {r : V → Option Int → Option Int → Hp → VK → Prop} {tl th : TO} (k : te σ H fun x H1 => tl σ H1 fun l H2 => th σ H2 fun u H3 => r x l u H3 Q) : tSl r te tl th σ H Q := k
theorem s_nopart {R : Option Int → Hp → Prop} (k : R none H) : tNoPart σ H R := k
def aPart (R : Option Int → Hp → Prop) : VK := fun x H1 => ∃ i, x = .int i ∧ R (some i) H1
theorem s_part {R : Option Int → Hp → Prop} (k : te σ H (aPart R)) : tPart te σ H R := k
theorem w_part {i : Int} {R : Option Int → Hp → Prop} (k : R (some i) H) : aPart R (.int i) H := ⟨i, rfl, k⟩
theorem w_slM {α : Type} {f : α → V} {us : List α} (hp : H p = some (.lst (us.map f))) (k : ∀ r, H r = none → Q (.ref r) (upd H r (.lst ((cut us lo hi).map f)))) : rSlA K (.ref p) lo hi H Q :=
  .inl ⟨p, _, rfl, SqL.of hp, fun r hr => by rw [cutV_map]; exact k r hr⟩
theorem w_slL (hp : H p = some (.lst xs)) (k : ∀ r, H r = none → Q (.ref r) (upd H r (.lst (cutV xs lo hi)))) : rSlA K (.ref p) lo hi H Q :=
  .inl ⟨p, _, rfl, SqL.of hp, k⟩
theorem w_slQ {α : Type} {f : α → V} {us : List α} (hp : SqL K H p (us.map f)) (k : ∀ r, H r = none → Q (.ref r) (upd H r (.lst ((cut us lo hi).map f)))) : rSlA K (.ref p) lo hi H Q :=
  .inl ⟨p, _, rfl, hp, fun r hr => by rw [cutV_map]; exact k r hr⟩
theorem w_slS (hl : z.length ≤ sizeLine) (k : Q (.str (cutS z lo hi)) H) : rSlA K (.str z) lo hi H Q := .inr (.inl ⟨z, rfl, hl, k⟩)
end
end Lk
namespace Lk
open PySem PySem.Spec PyProof.Rows L2

/-! ### for -/
/-- what is asked once the iterator J stands -/
def aLoop (J : It) (g : TG) (tb : TS) (D : Ends) (σ : St) (H1 : Hp) : Prop := ∃ W : Nat → Nat → St → Hp → Prop, (∃ m, W 0 m σ H1) ∧ ∀ i m σ H, W i m σ H →
  (J.stop i H ∧ D.nx σ H) ∨ (J.go i H ∧ ∃ N : St → Hp → Prop, (∀ σ' H', N σ' H' → ∃ m', m' < m ∧ W (i + 1) m' σ' H') ∧ ∀ x H', J.yld i H x H' → g x σ H' fun σ2 H2 => tb { D with nx := N, ct := N, bk := D.nx } σ2 H2)
def aRng1 (g : TG) (tb : TS) (D : Ends) (σ : St) (vs : List V) (H1 : Hp) : Prop := ∃ j : Int, vs = [.int j] ∧ -(2 ^ 62) ≤ j ∧ j < 2 ^ 62 ∧ aLoop (Itr 0 j.toNat) g tb D σ H1
def aRng2 (g : TG) (tb : TS) (D : Ends) (σ : St) (vs : List V) (H1 : Hp) : Prop := ∃ i j : Int, vs = [.int i, .int j] ∧ (-(2 ^ 62) ≤ i ∧ i < 2 ^ 62 ∧ -(2 ^ 62) ≤ j ∧ j < 2 ^ 62) ∧ aLoop (Itr i (j - i).toNat) g tb D σ H1
def aFList (K : PySem.W.Frag) (g : TG) (tb : TS) (D : Ends) (σ : St) (x : V) (H1 : Hp) : Prop := ∃ a, x = .ref a ∧ (∃ xs, SqL K H1 a xs) ∧ aLoop (Itl K a) g tb D σ H1
def aFEnum (K : PySem.W.Frag) (g : TG) (tb : TS) (D : Ends) (σ : St) (vs : List V) (H1 : Hp) : Prop := ∃ a xs, vs = [.ref a] ∧ SqL K H1 a xs ∧ aLoop (Ite K a) g tb D σ H1
section
variable {σ : St} {H : Hp} {D : Ends} {g : TG} {tb : TS} {ta : TA} {te : TE} {K : PySem.W.Frag}
theorem s_forR1 (k : ta σ H fun vs H1 => aRng1 g tb D σ vs H1) : tFor (iRng1 ta) g tb D σ H := k
theorem s_forR2 (k : ta σ H fun vs H1 => aRng2 g tb D σ vs H1) : tFor (iRng2 ta) g tb D σ H := k
theorem s_forL (k : te σ H fun x H1 => aFList K g tb D σ x H1) : tFor (iList K te) g tb D σ H := k
theorem s_forE (k : ta σ H fun vs H1 => aFEnum K g tb D σ vs H1) : tFor (iEnum K ta) g tb D σ H := k
variable {nx bk ct : St → Hp → Prop} {rt : VK} {j j' : Nat}
theorem w_rng1 {n : Int} (hn : n < 2 ^ 62 := by omega) (hn' : -(2 ^ 62) ≤ n := by omega) (Pv : Nat → St → Hp → Prop) (h0 : Pv 0 σ H)
    (hs : ∀ (i : Nat) σ' H', (i : Int) < n → Pv i σ' H' → tb ⟨Pv (i + 1), rt, nx, Pv (i + 1)⟩ (σ'.set j (some (.int (i : Int)))) H') (hd : ∀ σ' H', Pv n.toNat σ' H' → nx σ' H') : aRng1 (gName j) tb ⟨nx, rt, bk, ct⟩ σ [.int n] H :=
  ⟨n, rfl, hn', hn, for_range (lo := 0) (n := n.toNat) Pv h0 (fun i σ' H' hi p => by
    show tb ⟨Pv (i + 1), rt, nx, Pv (i + 1)⟩ (σ'.set j (some (.int ((0 : Int) + (i : Int))))) H'
    rw [Int.zero_add]
    exact hs i σ' H' (by omega) p) hd⟩
theorem w_rng2 {lo n : Int} (hl : -(2 ^ 62) ≤ lo := by omega) (hl' : lo < 2 ^ 62 := by omega) (hn : n < 2 ^ 62 := by omega) (hn' : -(2 ^ 62) ≤ n := by omega) (Pv : Nat → St → Hp → Prop) (h0 : Pv 0 σ H)
    (hs : ∀ (i : Nat) σ' H', lo + (i : Int) < n → Pv i σ' H' → tb ⟨Pv (i + 1), rt, nx, Pv (i + 1)⟩ (σ'.set j (some (.int (lo + (i : Int))))) H') (hd : ∀ σ' H', Pv (n - lo).toNat σ' H' → nx σ' H') : aRng2 (gName j) tb ⟨nx, rt, bk, ct⟩ σ [.int lo, .int n] H :=
  ⟨lo, n, rfl, ⟨hl, hl', hn', hn⟩, for_range (lo := lo) (n := (n - lo).toNat) Pv h0 (fun i σ' H' hi p => hs i σ' H' (by omega) p) hd⟩
/-- over a list that stands still; the item is f of us's -/
theorem w_forM {α : Type} {f : α → V} {us : List α} {p : Addr} (hp : H p = some (.lst (us.map f))) (Pv : Nat → St → Hp → Prop) (h0 : Pv 0 σ H) (hl : ∀ i σ' H', i ≤ us.length → Pv i σ' H' → H' p = some (.lst (us.map f)))
    (hs : ∀ (i : Nat) (u : α) σ' H', us[i]? = some u → Pv i σ' H' → g (f u) σ' H' fun σ2 H2 => tb ⟨Pv (i + 1), rt, nx, Pv (i + 1)⟩ σ2 H2) (hd : ∀ σ' H', Pv us.length σ' H' → nx σ' H') : aFList K g tb ⟨nx, rt, bk, ct⟩ σ (.ref p) H :=
  ⟨p, rfl, ⟨_, SqL.of hp⟩, for_list (K := K) (a := p) (xs := us.map f) Pv h0 (fun i σ' H' hi q => SqL.of (hl i σ' H' (by simpa using hi) q)) (fun i x σ' H' hx q => by
    rw [List.getElem?_map] at hx
    cases e : us[i]? with
    | none => rw [e] at hx; cases hx
    | some u =>
      rw [e] at hx
      cases hx
      exact hs i u σ' H' e q) (fun σ' H' q => hd σ' H' (by simpa using q))⟩
/-- a raw list -/
theorem w_forL {xs : List V} {p : Addr} (hp : H p = some (.lst xs)) (Pv : Nat → St → Hp → Prop) (h0 : Pv 0 σ H) (hl : ∀ i σ' H', i ≤ xs.length → Pv i σ' H' → H' p = some (.lst xs))
    (hs : ∀ (i : Nat) (u : V) σ' H', xs[i]? = some u → Pv i σ' H' → g u σ' H' fun σ2 H2 => tb ⟨Pv (i + 1), rt, nx, Pv (i + 1)⟩ σ2 H2) (hd : ∀ σ' H', Pv xs.length σ' H' → nx σ' H') : aFList K g tb ⟨nx, rt, bk, ct⟩ σ (.ref p) H :=
  ⟨p, rfl, ⟨_, SqL.of hp⟩, for_list (K := K) (a := p) (xs := xs) Pv h0 (fun i σ' H' hi q => SqL.of (hl i σ' H' hi q)) hs hd⟩
theorem for_enum {a : Addr} {xs : List V} (Pv : Nat → St → Hp → Prop) (h0 : Pv 0 σ H) (hl : ∀ i σ H, i ≤ xs.length → Pv i σ H → SqL K H a xs)
    (hs : ∀ i x T σ H, xs[i]? = some x → Pv i σ H → H T = none → g (.ref T) σ (upd H T (.tup [.int (i : Nat), x])) fun σ2 H2 => tb { D with nx := Pv (i + 1), ct := Pv (i + 1), bk := D.nx } σ2 H2) (hd : ∀ σ H, Pv xs.length σ H → D.nx σ H) : aLoop (Ite K a) g tb D σ H := by
  refine ⟨fun i m σ H => m = xs.length - i ∧ i ≤ xs.length ∧ Pv i σ H, ⟨xs.length, by simp, Nat.zero_le _, h0⟩, ?_⟩
  rintro i m σ H ⟨rfl, hi, p⟩
  have q := hl i σ H hi p
  by_cases hlt : i < xs.length
  · refine .inr ⟨⟨xs, xs[i], q, by simp [hlt]⟩, Pv (i + 1), fun σ' H' p' => ⟨xs.length - (i + 1), by omega, rfl, hlt, p'⟩, fun x H' y => ?_⟩
    obtain ⟨T, z, e1, e2, e3, y⟩ := y
    subst e1 e3
    exact hs i z T σ _ (y xs q) p e2
  · have e : i = xs.length := by omega
    subst e
    exact .inl ⟨⟨xs, q, Nat.le_refl _⟩, hd σ H p⟩
/-- for i, x in enumerate(xs), i in slot j, x in slot j' -/
theorem w_enumM {α : Type} {f : α → V} {us : List α} {p : Addr} (hp : H p = some (.lst (us.map f))) (Pv : Nat → St → Hp → Prop) (h0 : Pv 0 σ H) (hl : ∀ i σ' H', i ≤ us.length → Pv i σ' H' → H' p = some (.lst (us.map f)))
    (hs : ∀ (i : Nat) (u : α) (T : Addr) σ' H', us[i]? = some u → Pv i σ' H' → H' T = none → tb ⟨Pv (i + 1), rt, nx, Pv (i + 1)⟩ ((σ'.set j (some (.int (i : Int)))).set j' (some (f u))) (upd H' T (.tup [.int (i : Int), f u]))) (hd : ∀ σ' H', Pv us.length σ' H' → nx σ' H') :
    aFEnum K (gTup K 2 (gCons (gName j) (gCons (gName j') gNil))) tb ⟨nx, rt, bk, ct⟩ σ [.ref p] H :=
  ⟨p, _, rfl, SqL.of hp, for_enum (K := K) (a := p) (xs := us.map f) Pv h0 (fun i σ' H' hi q => SqL.of (hl i σ' H' (by simpa using hi) q)) (fun i x T σ' H' hx q hT => by
    rw [List.getElem?_map] at hx
    cases e : us[i]? with
    | none => rw [e] at hx; cases hx
    | some u =>
      rw [e] at hx
      cases hx
      exact ⟨T, _, rfl, .inl (.inl upd_same), rfl, _, _, rfl, _, _, rfl, rfl, hs i u T σ' H' e q hT⟩) (fun σ' H' q => hd σ' H' (by simpa using q))⟩

/-- the items of any kind, with any target for the item -/
theorem w_enumG {g : TG} {xs : List V} {p : Addr} (hp : H p = some (.lst xs)) (Pv : Nat → St → Hp → Prop) (h0 : Pv 0 σ H) (hl : ∀ i σ' H', i ≤ xs.length → Pv i σ' H' → H' p = some (.lst xs))
    (hs : ∀ (i : Nat) (u : V) (T : Addr) σ' H', xs[i]? = some u → Pv i σ' H' → H' T = none → g u (σ'.set j (some (.int (i : Int)))) (upd H' T (.tup [.int (i : Int), u])) fun σ2 H2 => gNil [] σ2 H2 fun σ3 H3 => tb ⟨Pv (i + 1), rt, nx, Pv (i + 1)⟩ σ3 H3) (hd : ∀ σ' H', Pv xs.length σ' H' → nx σ' H') :
    aFEnum K (gTup K 2 (gCons (gName j) (gCons g gNil))) tb ⟨nx, rt, bk, ct⟩ σ [.ref p] H :=
  ⟨p, _, rfl, SqL.of hp, for_enum (K := K) (a := p) (xs := xs) Pv h0 (fun i σ' H' hi q => SqL.of (hl i σ' H' hi q)) (fun i x T σ' H' hx q hT => by
    refine ⟨T, _, rfl, .inl (.inl upd_same), rfl, _, _, rfl, _, _, rfl, ?_⟩
    exact hs i x T σ' H' hx q hT) (fun σ' H' q => hd σ' H' q)⟩

theorem w_gTup {Q : St → Hp → Prop} {a : Addr} {xs : List V} {m : Nat} {t : TGs} (hp : H a = some (.tup xs)) (hl : xs.length = m) (k : t xs σ H Q) : gTup K m t (.ref a) σ H Q := ⟨a, xs, rfl, .inl (.inl hp), hl, k⟩
theorem w_gCons {Q : St → Hp → Prop} {v : V} {r : List V} {t : TG} {u : TGs} (k : t v σ H fun σ' H' => u r σ' H' Q) : gCons t u (v :: r) σ H Q := ⟨v, r, rfl, k⟩
theorem w_gNil {Q : St → Hp → Prop} (k : Q σ H) : gNil [] σ H Q := ⟨rfl, k⟩
/-! ### a cut: what follows is shown once -/
def tCut (t u : TS) : TS := fun D σ H => ∃ Mid : St → Hp → Prop, t { D with nx := Mid } σ H ∧ ∀ σ' H', Mid σ' H' → u D σ' H'
theorem pss_cut {X : Cx} {st : Stmt} {rest : List Stmt} {t u : TS} (h1 : PS X st t) (h2 : PSs X rest u) : PSs X (st :: rest) (tCut t u) := by
  refine ⟨fun pins s σ H D I h => ?_⟩
  obtain ⟨Mid, ht, hu⟩ := h
  refine wpAny_execs_cons (thn (h1.run pins s σ H { D with nx := Mid } I ht) fun f s1 q => ?_)
  cases f with
  | next =>
    obtain ⟨σ', H', I', q⟩ := q
    exact h2.run pins s1 σ' H' D I' (hu σ' H' q)
  | ret v => exact q
  | brk => exact q
  | cont => exact q
theorem s_cut {σ : St} {H : Hp} {ts us : TS} {nx bk ct : St → Hp → Prop} {rt : VK} (Mid : St → Hp → Prop) (h1 : ts ⟨Mid, rt, bk, ct⟩ σ H) (h2 : ∀ σ' H', Mid σ' H' → us ⟨nx, rt, bk, ct⟩ σ' H') : tCut ts us ⟨nx, rt, bk, ct⟩ σ H := ⟨Mid, h1, h2⟩
/-! ### while -/
/-- the turn, once the test has come out true -/
def aTurn (Pv : St → Hp → Prop) (μ : St → Hp → Nat) (m : Nat) (tb : TS) (rt : VK) (nx : St → Hp → Prop) (σ : St) (H : Hp) : Prop :=
  ∃ N : St → Hp → Prop, (∀ σ' H', N σ' H' → ∃ m', m' < m ∧ (Pv σ' H' ∧ μ σ' H' = m')) ∧ tb ⟨N, rt, nx, N⟩ σ H
theorem w_turn {Pv : St → Hp → Prop} {μ : St → Hp → Nat} {m : Nat} (k : tb ⟨fun σ' H' => Pv σ' H' ∧ μ σ' H' < m, rt, nx, fun σ' H' => Pv σ' H' ∧ μ σ' H' < m⟩ σ H) : aTurn Pv μ m tb rt nx σ H :=
  ⟨_, fun σ' H' q => ⟨_, q.2, q.1, rfl⟩, k⟩
theorem w_while {c : TT} (Pv : St → Hp → Prop) (μ : St → Hp → Nat) (h0 : Pv σ H) (hs : ∀ σ' H', Pv σ' H' → c σ' H' fun b H1 => if b = true then aTurn Pv μ (μ σ' H') tb rt nx σ' H1 else nx σ' H1) : tWhile c tb ⟨nx, rt, bk, ct⟩ σ H :=
  ⟨fun m σ H => Pv σ H ∧ μ σ H = m, ⟨_, h0, rfl⟩, fun m σ' H' hw => by
    obtain ⟨p, rfl⟩ := hw
    exact hs σ' H' p⟩
end

/-! ### list comprehensions -/
/-- behind a turn: the list at D -/
def cNx (H0 : Hp) (D : Addr) (acc : List V) : Hp → Prop := fun H => Kp [] H0 H ∧ H D = some (.lst acc)
/-- the kept item y goes to the list at D -/
def aKeep (H0 : Hp) (D : Addr) (acc' : List V) : VK := fun y H4 => ∃ acc, H4 D = some (.lst acc) ∧ acc.length < sizeLine ∧ cNx H0 D acc' (upd H4 D (.lst (acc ++ [y])))
section
variable {σ : St} {H : Hp} {g : TG} {tt : TT} {te : TE} {tl : TE} {ta : TA} {K : PySem.W.Frag} {vs : List Nat} {Q : VK}
def aComp (J : It) (g : TG) (tt : TT) (te : TE) (vs : List Nat) (σ : St) (Q : VK) (H1 : Hp) : Prop := ∀ D, H1 D = none → ∃ W : Nat → Nat → Hp → Prop, (∃ m, W 0 m (upd H1 D (.lst []))) ∧ ∀ i m H, W i m H →
  (J.stop i H ∧ Q (.ref D) H) ∨ (J.go i H ∧ ∃ Nx : Hp → Prop, (∀ H', Nx H' → ∃ m', m' < m ∧ W (i + 1) m' H') ∧ ∀ x H', J.yld i H x H' → g x (wipe σ vs) H' fun σ2 H2 => wipe σ2 vs = wipe σ vs ∧ tt σ2 H2 fun b H3 =>
    if b = true then te σ2 H3 fun y H4 => ∃ acc, H4 D = some (.lst acc) ∧ acc.length < sizeLine ∧ Nx (upd H4 D (.lst (acc ++ [y]))) else Nx H3)
def aCList (K : PySem.W.Frag) (g : TG) (tt : TT) (te : TE) (vs : List Nat) (σ : St) (Q : VK) (x : V) (H1 : Hp) : Prop := ∃ a, x = .ref a ∧ (∃ xs, SqL K H1 a xs) ∧ aComp (Itl K a) g tt te vs σ Q H1
def aCR1 (g : TG) (tt : TT) (te : TE) (vs : List Nat) (σ : St) (Q : VK) (us : List V) (H1 : Hp) : Prop := ∃ j : Int, us = [.int j] ∧ -(2 ^ 62) ≤ j ∧ j < 2 ^ 62 ∧ aComp (Itr 0 j.toNat) g tt te vs σ Q H1
def aCR2 (g : TG) (tt : TT) (te : TE) (vs : List Nat) (σ : St) (Q : VK) (us : List V) (H1 : Hp) : Prop := ∃ i j : Int, us = [.int i, .int j] ∧ (-(2 ^ 62) ≤ i ∧ i < 2 ^ 62 ∧ -(2 ^ 62) ≤ j ∧ j < 2 ^ 62) ∧ aComp (Itr i (j - i).toNat) g tt te vs σ Q H1
def aCEnum (K : PySem.W.Frag) (g : TG) (tt : TT) (te : TE) (vs : List Nat) (σ : St) (Q : VK) (us : List V) (H1 : Hp) : Prop := ∃ a xs, us = [.ref a] ∧ SqL K H1 a xs ∧ aComp (Ite K a) g tt te vs σ Q H1
theorem s_lcL (k : tl σ H fun x H1 => aCList K g tt te vs σ Q x H1) : tLc (iList K tl) g tt te vs σ H Q := k
theorem s_lcR1 (k : ta σ H fun us H1 => aCR1 g tt te vs σ Q us H1) : tLc (iRng1 ta) g tt te vs σ H Q := k
theorem s_lcR2 (k : ta σ H fun us H1 => aCR2 g tt te vs σ Q us H1) : tLc (iRng2 ta) g tt te vs σ H Q := k
theorem s_lcE (k : ta σ H fun us H1 => aCEnum K g tt te vs σ Q us H1) : tLc (iEnum K ta) g tt te vs σ H Q := k
theorem fm_snoc {α β : Type} (ψ : α → Option β) {us : List α} {i : Nat} {u : α} (h : us[i]? = some u) : (us.take (i + 1)).filterMap ψ = (us.take i).filterMap ψ ++ (ψ u).toList := by
  have e : us.take (i + 1) = us.take i ++ [u] := by
    rw [List.take_succ, h]; rfl
  rw [e, List.filterMap_append]
  cases q : ψ u <;> simp [List.filterMap_cons, q]
theorem fm_len {α β : Type} (ψ : α → Option β) (us : List α) : (us.filterMap ψ).length ≤ us.length := List.length_filterMap_le _ _
variable {α β : Type} {f : α → V} {f' : β → V}
theorem w_lcM (ψ : α → Option β) {us : List α} {p : Addr} (hp : H p = some (.lst (us.map f))) (hz : us.length < sizeLine)
    (hs : ∀ (D : Addr) (i : Nat) (u : α) (acc : List V) (H' : Hp), H D = none → us[i]? = some u → Kp [] H H' → H' D = some (.lst acc) → acc.length < sizeLine → g (f u) (wipe σ vs) H' fun σ2 H2 => wipe σ2 vs = wipe σ vs ∧ tt σ2 H2 fun b H3 =>
      if b = true then te σ2 H3 (aKeep H D (acc ++ (ψ u).toList.map f')) else cNx H D (acc ++ (ψ u).toList.map f') H3)
    (k : ∀ D H', H D = none → Kp [] H H' → H' D = some (.lst ((us.filterMap ψ).map f')) → Q (.ref D) H') : aCList K g tt te vs σ Q (.ref p) H :=
  ⟨p, rfl, ⟨_, SqL.of hp⟩, fun D hD => lc_list (K := K) (a := p) (xs := us.map f) (fun i => cNx H D (((us.take i).filterMap ψ).map f')) ⟨Kp.refl.new hD, upd_same⟩
    (fun i H' hi q => SqL.of (q.1.at0 hp)) (fun i x H' hx q => by
      rw [List.getElem?_map] at hx
      cases e : us[i]? with
      | none => rw [e] at hx; cases hx
      | some u =>
        rw [e] at hx
        cases hx
        have hl : i < us.length := (List.getElem?_eq_some_iff.mp e).1
        have hlen : (((us.take i).filterMap ψ).map f').length < sizeLine := by
          have := fm_len ψ (us.take i)
          rw [List.length_take] at this
          rw [List.length_map]
          omega
        have h := hs D i u _ H' hD e q.1 q.2 hlen
        have e2 : ((us.take (i + 1)).filterMap ψ).map f' = ((us.take i).filterMap ψ).map f' ++ (ψ u).toList.map f' := by rw [fm_snoc ψ e, List.map_append]
        rw [e2]
        exact h) (fun H' q => k D H' hD q.1 (by
          have := q.2
          rw [List.length_map, List.take_length] at this
          exact this))⟩
theorem w_lcR (ψ : Nat → Option β) {lo n : Int} (hl1 : -(2 ^ 62) ≤ lo) (hl2 : lo < 2 ^ 62) (hn1 : -(2 ^ 62) ≤ n) (hn2 : n < 2 ^ 62) (hz : (n - lo).toNat < sizeLine)
    (hs : ∀ (D : Addr) (i : Nat) (acc : List V) (H' : Hp), H D = none → lo + (i : Int) < n → Kp [] H H' → H' D = some (.lst acc) → acc.length < sizeLine → g (.int (lo + (i : Int))) (wipe σ vs) H' fun σ2 H2 => wipe σ2 vs = wipe σ vs ∧ tt σ2 H2 fun b H3 =>
      if b = true then te σ2 H3 (aKeep H D (acc ++ (ψ i).toList.map f')) else cNx H D (acc ++ (ψ i).toList.map f') H3)
    (k : ∀ D H', H D = none → Kp [] H H' → H' D = some (.lst (((List.range (n - lo).toNat).filterMap ψ).map f')) → Q (.ref D) H') : aComp (Itr lo (n - lo).toNat) g tt te vs σ Q H :=
  fun D hD => lc_range (lo := lo) (n := (n - lo).toNat) (fun i => cNx H D (((List.range i).filterMap ψ).map f')) ⟨Kp.refl.new hD, upd_same⟩ (fun i H' hi q => by
      have hlen : (((List.range i).filterMap ψ).map f').length < sizeLine := by
        have := fm_len ψ (List.range i)
        rw [List.length_range] at this
        rw [List.length_map]
        omega
      have h := hs D i _ H' hD (by omega) q.1 q.2 hlen
      have e2 : ((List.range (i + 1)).filterMap ψ).map f' = ((List.range i).filterMap ψ).map f' ++ (ψ i).toList.map f' := by
        rw [List.range_succ, List.filterMap_append, List.map_append]
        cases q : ψ i <;> simp [List.filterMap_cons, q]
      rw [e2]
      exact h) (fun H' q => k D H' hD q.1 q.2)
theorem w_lcR1 (ψ : Nat → Option β) {n : Int} (hn1 : -(2 ^ 62) ≤ n) (hn2 : n < 2 ^ 62) (hz : n.toNat < sizeLine)
    (hs : ∀ (D : Addr) (i : Nat) (acc : List V) (H' : Hp), H D = none → (i : Int) < n → Kp [] H H' → H' D = some (.lst acc) → acc.length < sizeLine → g (.int (i : Int)) (wipe σ vs) H' fun σ2 H2 => wipe σ2 vs = wipe σ vs ∧ tt σ2 H2 fun b H3 =>
      if b = true then te σ2 H3 (aKeep H D (acc ++ (ψ i).toList.map f')) else cNx H D (acc ++ (ψ i).toList.map f') H3)
    (k : ∀ D H', H D = none → Kp [] H H' → H' D = some (.lst (((List.range n.toNat).filterMap ψ).map f')) → Q (.ref D) H') : aCR1 g tt te vs σ Q [.int n] H := by
  have q := w_lcR (H := H) (g := g) (tt := tt) (te := te) (σ := σ) (vs := vs) (Q := Q) (f' := f') ψ (lo := 0) (n := n) (by omega) (by omega) hn1 hn2 (by simpa using hz) (fun D i acc H' h1 h2 h3 h4 h5 => by
    rw [Int.zero_add]
    exact hs D i acc H' h1 (by omega) h3 h4 h5) (by simpa using k)
  exact ⟨n, rfl, hn1, hn2, by simpa using q⟩
theorem w_lcR2 (ψ : Nat → Option β) {lo n : Int} (hl1 : -(2 ^ 62) ≤ lo) (hl2 : lo < 2 ^ 62) (hn1 : -(2 ^ 62) ≤ n) (hn2 : n < 2 ^ 62) (hz : (n - lo).toNat < sizeLine)
    (hs : ∀ (D : Addr) (i : Nat) (acc : List V) (H' : Hp), H D = none → lo + (i : Int) < n → Kp [] H H' → H' D = some (.lst acc) → acc.length < sizeLine → g (.int (lo + (i : Int))) (wipe σ vs) H' fun σ2 H2 => wipe σ2 vs = wipe σ vs ∧ tt σ2 H2 fun b H3 =>
      if b = true then te σ2 H3 (aKeep H D (acc ++ (ψ i).toList.map f')) else cNx H D (acc ++ (ψ i).toList.map f') H3)
    (k : ∀ D H', H D = none → Kp [] H H' → H' D = some (.lst (((List.range (n - lo).toNat).filterMap ψ).map f')) → Q (.ref D) H') : aCR2 g tt te vs σ Q [.int lo, .int n] H :=
  ⟨lo, n, rfl, ⟨hl1, hl2, hn1, hn2⟩, w_lcR ψ hl1 hl2 hn1 hn2 hz hs k⟩
/-- the item is kept -/
theorem w_keep {D : Addr} {acc : List V} {o : Option β} {b : β} {H4 : Hp} (hk : Kp [] H H4) (hD : H4 D = some (.lst acc)) (hl : acc.length < sizeLine) (hn : H D = none) (e : o = some b) : aKeep H D (acc ++ o.toList.map f') (f' b) H4 := by
  subst e
  exact ⟨acc, hD, hl, hk.own hn, upd_same⟩
theorem w_drop {D : Addr} {acc : List V} {o : Option β} {H4 : Hp} (hk : Kp [] H H4) (hD : H4 D = some (.lst acc)) (e : o = none) : cNx H D (acc ++ o.toList.map f') H4 := by
  subst e
  exact ⟨hk, by simpa using hD⟩
/-- behind a turn of a comprehension whose turns change other things, too -/
def gNx (ms : List Addr) (H0 : Hp) (D : Addr) (J : Nat → List V → Hp → Prop) (i : Nat) (H : Hp) : Prop := ∃ acc : List V, acc.length ≤ i ∧ Kp ms H0 H ∧ H D = some (.lst acc) ∧ J i acc H
def gKeep (ms : List Addr) (H0 : Hp) (D : Addr) (J : Nat → List V → Hp → Prop) (i : Nat) : VK := fun y H4 => ∃ acc, H4 D = some (.lst acc) ∧ acc.length < sizeLine ∧ gNx ms H0 D J i (upd H4 D (.lst (acc ++ [y])))
theorem w_lcRG {lo n : Int} (ms : List Addr) (J : Addr → Nat → List V → Hp → Prop)
    (h0 : ∀ D, H D = none → J D 0 [] (upd H D (.lst [])))
    (hs : ∀ (D : Addr) (i : Nat) (acc : List V) (H' : Hp), H D = none → lo + (i : Int) < n → acc.length ≤ i → Kp ms H H' → H' D = some (.lst acc) → J D i acc H' → g (.int (lo + (i : Int))) (wipe σ vs) H' fun σ2 H2 => wipe σ2 vs = wipe σ vs ∧ tt σ2 H2 fun b H3 =>
      if b = true then te σ2 H3 (gKeep ms H D (J D) (i + 1)) else gNx ms H D (J D) (i + 1) H3)
    (k : ∀ D acc H', H D = none → acc.length ≤ (n - lo).toNat → Kp ms H H' → H' D = some (.lst acc) → J D (n - lo).toNat acc H' → Q (.ref D) H') : aComp (Itr lo (n - lo).toNat) g tt te vs σ Q H :=
  fun D hD => lc_range (lo := lo) (n := (n - lo).toNat) (fun i => gNx ms H D (J D) i) ⟨[], Nat.zero_le _, Kp.refl.new hD, upd_same, h0 D hD⟩ (fun i H' hi q => by
      obtain ⟨acc, q1, q2, q3, q4⟩ := q
      exact hs D i acc H' hD (by omega) q1 q2 q3 q4) (fun H' q => by
      obtain ⟨acc, q1, q2, q3, q4⟩ := q
      exact k D acc H' hD q1 q2 q3 q4)
theorem w_lcRG2 {lo n : Int} (ms : List Addr) (J : Addr → Nat → List V → Hp → Prop) (hl1 : -(2 ^ 62) ≤ lo) (hl2 : lo < 2 ^ 62) (hn1 : -(2 ^ 62) ≤ n) (hn2 : n < 2 ^ 62)
    (h0 : ∀ D, H D = none → J D 0 [] (upd H D (.lst [])))
    (hs : ∀ (D : Addr) (i : Nat) (acc : List V) (H' : Hp), H D = none → lo + (i : Int) < n → acc.length ≤ i → Kp ms H H' → H' D = some (.lst acc) → J D i acc H' → g (.int (lo + (i : Int))) (wipe σ vs) H' fun σ2 H2 => wipe σ2 vs = wipe σ vs ∧ tt σ2 H2 fun b H3 =>
      if b = true then te σ2 H3 (gKeep ms H D (J D) (i + 1)) else gNx ms H D (J D) (i + 1) H3)
    (k : ∀ D acc H', H D = none → acc.length ≤ (n - lo).toNat → Kp ms H H' → H' D = some (.lst acc) → J D (n - lo).toNat acc H' → Q (.ref D) H') : aCR2 g tt te vs σ Q [.int lo, .int n] H :=
  ⟨lo, n, rfl, ⟨hl1, hl2, hn1, hn2⟩, w_lcRG ms J h0 hs k⟩
theorem w_lcRG1 {n : Int} (ms : List Addr) (J : Addr → Nat → List V → Hp → Prop) (hn1 : -(2 ^ 62) ≤ n) (hn2 : n < 2 ^ 62)
    (h0 : ∀ D, H D = none → J D 0 [] (upd H D (.lst [])))
    (hs : ∀ (D : Addr) (i : Nat) (acc : List V) (H' : Hp), H D = none → (i : Int) < n → acc.length ≤ i → Kp ms H H' → H' D = some (.lst acc) → J D i acc H' → g (.int (i : Int)) (wipe σ vs) H' fun σ2 H2 => wipe σ2 vs = wipe σ vs ∧ tt σ2 H2 fun b H3 =>
      if b = true then te σ2 H3 (gKeep ms H D (J D) (i + 1)) else gNx ms H D (J D) (i + 1) H3)
    (k : ∀ D acc H', H D = none → acc.length ≤ n.toNat → Kp ms H H' → H' D = some (.lst acc) → J D n.toNat acc H' → Q (.ref D) H') : aCR1 g tt te vs σ Q [.int n] H := by
  have q := w_lcRG (H := H) (g := g) (tt := tt) (te := te) (σ := σ) (vs := vs) (Q := Q) (lo := 0) (n := n) ms J h0 (fun D i acc H' h1 h2 h3 h4 h5 h6 => by
    rw [Int.zero_add]
    exact hs D i acc H' h1 (by omega) h3 h4 h5 h6) (by simpa using k)
  exact ⟨n, rfl, hn1, hn2, by simpa using q⟩
theorem w_keepG {ms : List Addr} {J : Nat → List V → Hp → Prop} {D : Addr} {acc : List V} {i : Nat} {y : V} {H4 : Hp} (hk : Kp ms H H4) (hD : H4 D = some (.lst acc)) (hl : acc.length ≤ i) (hz : i < sizeLine) (hn : H D = none) (j : J (i + 1) (acc ++ [y]) (upd H4 D (.lst (acc ++ [y])))) : gKeep ms H D J (i + 1) y H4 :=
  ⟨acc, hD, by omega, acc ++ [y], by rw [List.length_append]; simpa using hl, hk.own hn, upd_same, j⟩
theorem w_dropG {ms : List Addr} {J : Nat → List V → Hp → Prop} {D : Addr} {acc : List V} {i : Nat} {H4 : Hp} (hk : Kp ms H H4) (hD : H4 D = some (.lst acc)) (hl : acc.length ≤ i) (j : J (i + 1) acc H4) : gNx ms H D J (i + 1) H4 :=
  ⟨acc, by omega, hk, hD, j⟩
theorem s_yes {Q : Bool → Hp → Prop} (k : Q true H) : tYes σ H Q := k
theorem fm_some {h : α → β} {us : List α} : us.filterMap (fun u => some (h u)) = us.map h := by
  rw [← List.filterMap_eq_map]; rfl
end

/-! ### try, except -/
section
variable {K : PySem.W.Frag} {c cls : Value} {d : Option Addr} {i : Nat} {ts : Addr → Value → Option Addr → TS} {Wout : WX} {nx bk ct : St → Hp → Prop} {rt : VK} {σ : St} {H : Hp}
theorem w_asT (e : PySem.W.exmOne K cls c = some true) (k : ∀ a, H a = none → ts a cls d ⟨fun σ' H' => nx (σ'.set i none) H', rt, fun σ' H' => bk (σ'.set i none) H', fun σ' H' => ct (σ'.set i none) H'⟩ (σ.set i (some (.ref a))) H) : wAs K c i ts Wout ⟨nx, rt, bk, ct⟩ cls d σ H :=
  ⟨true, e, fun _ => k, fun q => Bool.noConfusion q⟩
theorem w_asF {D : Ends} (e : PySem.W.exmOne K cls c = some false) (k : Wout cls d σ H) : wAs K c i ts Wout D cls d σ H :=
  ⟨false, e, fun q => Bool.noConfusion q, fun _ => k⟩
/-- e.f, e the caught exception at a, of the class cls, its dict d -/
def tXfG (K : PySem.W.Frag) (a : Addr) (cls : Value) (d : Option Addr) (f : Str) (te : TE) : TE := fun σ H Q => te σ H fun x H1 => x = .ref a ∧ ∃ (C dd : Addr) (fs : List (Str × V)) (v : V), cls = .ref C ∧ d = some dd ∧ XfC K C ∧ PySem.W.findIn K (.ref C) f = some none ∧ H1 dd = some (.xd fs) ∧ fs.lookup f = some v ∧ Q v H1
theorem pe_xfG {X : Cx} {a : Addr} {oe : Obj} {cls : Value} {d : Option Addr} {pn : List (Addr × Obj)} {e : Expr} {te : TE} {pos : Pos} {n : Str}
    (hz : Zc cls d oe) (hf : ∃ vs, oe.data = .fields vs) (he : PE (X.suite a ((a, oe) :: pn)) e te) (hb : attributeBase e n X.env (eval e X.env) = eval e X.env := by rfl) :
    PE (X.suite a ((a, oe) :: pn)) (.Attribute e n pos) (tXfG X.K a cls d n te) := by
  refine ⟨fun pins s σ H Q I h => ?_⟩
  refine attr_of hb (thn (he.run pins s σ H _ I h) fun u s1 hh => ?_)
  obtain ⟨x, H1, I1, rx, ex, C, dd, fs, v, ec, ed, T, hno, ea, l, q⟩ := hh
  subst ex
  obtain rfl : u = Value.ref a := rx
  subst ec
  subst ed
  obtain ⟨ha, _⟩ := I1.pin (a, oe) (List.mem_append_left _ List.mem_cons_self)
  obtain ⟨vs, hd⟩ := hf
  have hx : ObjOk X.prog X.w H1 s1.heap dd (.xd fs) := I1.hok dd _ ea
  obtain ⟨mA, hns, hr⟩ := hx
  obtain ⟨od, ho, hl⟩ := lookIn_ns hns
  obtain ⟨u, hu, ru⟩ := RelO.some_of (v := v) (o := mA n) (by rw [← l]; exact hr n)
  have J : PySem.W.InstAt s1.heap a oe C (some od) := ⟨ha, hz.1, by unfold PySem.W.notCls; rw [hd] <;> rfl, by rw [hz.2]; exact ho⟩
  exact HandSPX.exc_get I1.kIn J T.ga T.gg T.exC (PySem.W.findObj_own T.hdC hno rfl (by rw [hl, hu])) (handed_of ru) ⟨v, H1, I1.tok _, ru, q⟩
/-- isinstance(e, C) of the caught exception -/
def rIsG (K : PySem.W.Frag) (a : Addr) (cls : Value) (d : Option Addr) : List V → Hp → VK → Prop := fun xs H Q => ∃ (C dd : Addr) (fs : List (Str × V)) (c : V) (cv : Value) (b : Bool), xs = [.ref a, c] ∧ cls = .ref C ∧ d = some dd ∧ H dd = some (.xd fs) ∧ ExcC K C ∧ ClsV c cv ∧ PySem.W.kitOne K (.ref C) cv = some b ∧ Q (.bl b) H
theorem call_isG {X : Cx} {a : Addr} {oe : Obj} {cls : Value} {d : Option Addr} {pn : List (Addr × Obj)} (hz : Zc cls d oe) (hf : ∃ vs, oe.data = .fields vs) : CallR (X.suite a ((a, oe) :: pn)) (.builtin "isinstance") (rIsG X.K a cls d) := by
  intro pins s σ H xs us Q I r h
  obtain ⟨C, dd, fs, c, cv, b, rfl, rfl, rfl, hdd, E, hcv, e, q⟩ := h
  obtain ⟨u1, u2, rfl, r1, r2⟩ := vals2 r
  have e2 := hcv.eq r2
  subst e2
  cases r1
  obtain ⟨ha, _⟩ := I.pin (a, oe) (List.mem_append_left _ List.mem_cons_self)
  obtain ⟨vs, hd⟩ := hf
  have hx : ObjOk X.prog X.w H s.heap dd (.xd fs) := I.hok dd _ hdd
  obtain ⟨mA, hns, hr⟩ := hx
  obtain ⟨od, ho, hl⟩ := lookIn_ns hns
  have J : PySem.W.InstAt s.heap a oe C (some od) := ⟨ha, hz.1, by unfold PySem.W.notCls; rw [hd] <;> rfl, by rw [hz.2]; exact ho⟩
  have hcl : (PySem.W.clsIn X.K C).isSome = true := by
    obtain ⟨cd, hc, _⟩ := PySem.W.any_some E.hd
    rw [hc]; rfl
  exact PySem.W.kia_one (PySem.W.kitx_exc hcl E.hg E.hk E.hs E.ha E.hn E.ht E.hm) I.kIn J e (fun z => nomatch z) fun tk => ⟨.bl b, H, I.kept (t' := tk) fun _ _ z => z, rfl, q⟩
end
/-- in the suite: the exception that is handled has no context -/
theorem hot_suite {X : Cx} {a : Addr} {oe : Obj} {cls : Value} {d : Option Addr} {pn : List (Addr × Obj)} (hz : L2N.Zn cls d oe) (hf : ∃ vs, oe.data = .fields vs) : L2H.HotC (X.suite a ((a, oe) :: pn)) := by
  obtain ⟨vs, hd⟩ := hf
  exact ⟨(a, oe), ⟨rfl, vs, hd, hz.2.2 vs hd⟩, List.mem_cons_self⟩
end Lk
namespace Lk
open PySem PySem.Spec PyProof.Rows L2

/-! ### a op b op c op d -/
def tChain3 (r r' r'' : R2) (ta tb tc td : TE) : TE := fun σ H Q => ta σ H fun x H1 => tb σ H1 fun y H2 => r x y H2 fun z H3 => aB z H3 fun k H3 =>
  if k = true then tc σ H3 fun w' H4 => r' y w' H4 fun z H5 => aB z H5 fun k H5 => if k = true then td σ H5 fun v' H6 => r'' w' v' H6 Q else Q (.bl false) H5 else Q (.bl false) H3
theorem s_chain3 {σ : St} {H : Hp} {Q : VK} {r r' r'' : R2} {ta tb tc td : TE} (k : ta σ H fun x H1 => tb σ H1 fun y H2 => r x y H2 fun z H3 => aB z H3 fun k H3 =>
  if k = true then tc σ H3 fun w' H4 => r' y w' H4 fun z H5 => aB z H5 fun k H5 => if k = true then td σ H5 fun v' H6 => r'' w' v' H6 Q else Q (.bl false) H5 else Q (.bl false) H3) : tChain3 r r' r'' ta tb tc td σ H Q := k
theorem pt_chain3A {X : Cx} {op op' op'' : CmpOp} {r r' r'' : R2} {e1 e2 e3 e4 : Expr} {ta tb tc td : TE} {pos : Pos} (ho : OpR X (compareOp op) r) (ho' : OpR X (compareOp op') r') (ho'' : OpR X (compareOp op'') r'') (ha : PE X e1 ta) (hb : PE X e2 tb) (hc : PE X e3 tc) (hd : PE X e4 td)
    (hm : lastMarks [op, op', op''] [e2, e3, e4] = false := by with_unfolding_all rfl) : PT X (.Compare e1 [op, op', op''] [e2, e3, e4] pos) (cB (tChain3 r r' r'' ta tb tc td)) := by
  refine ⟨fun pins s σ H Q I h => ?_⟩
  refine isTrue_chain (thn (ha.run pins s σ H _ I h) fun v s1 ⟨x, H1, I1, r1, q1⟩ => test_link (thn (hb.run pins s1 σ H1 _ I1 q1) fun u s2 ⟨y, H2, I2, r2, q2⟩ =>
    thn (ho pins s2 σ H2 x y v u _ I2 r1 r2 q2) fun d s3 ⟨z, H3, I3, r3, k, e, q3⟩ => ?_)) hm
  subst e
  cases r3
  refine wpAny_truthy_bool ?_
  cases k with
  | false =>
    obtain ⟨k', e', q'⟩ := q3
    cases e'
    exact ite_ff ⟨H3, I3, q'⟩
  | true =>
    refine ite_tt (test_link (thn (hc.run pins s3 σ H3 _ I3 q3) fun w' s4 ⟨z', H4, I4, r4, q4⟩ => thn (ho' pins s4 σ H4 y z' u w' _ I4 r2 r4 q4) fun d' s5 ⟨z2, H5, I5, r5, k2, e2, q5⟩ => ?_))
    subst e2
    cases r5
    refine wpAny_truthy_bool ?_
    cases k2 with
    | false =>
      obtain ⟨k', e', q'⟩ := q5
      cases e'
      exact ite_ff ⟨H5, I5, q'⟩
    | true =>
      refine ite_tt (test_last (thn (hd.run pins s5 σ H5 _ I5 q5) fun w6 s6 ⟨z6, H6, I6, r6, q6⟩ => thn (ho'' pins s6 σ H6 z' z6 w' w6 _ I6 r4 r6 q6) fun d7 s7 ⟨z7, H7, I7, r7, k7, e7, q7⟩ => ?_))
      subst e7
      cases r7
      exact wpAny_truthy_bool ⟨H7, I7, q7⟩

theorem roomH_units {k : Nat} {A : Around} (r : L2H.RoomH k A) : A.units + 64 < cLine := by have := r.un; omega
theorem roomH_s {j k : Nat} {A A' : Around} (r : L2H.RoomH j A) (h : k ≤ j) (e1 : A'.depth = A.depth) (e2 : A'.units = A.units) : L2H.RoomH k A' :=
  ⟨by have := r.dp; omega, by have := r.un; omega⟩
/-! ### addresses -/
theorem ne_n {H : Hp} {a b : Addr} {o : HO} (h' : H b = none) (h : H a = some o) : a ≠ b := ne_of_none h h'
theorem ne_n' {H : Hp} {a b : Addr} {o : HO} (h' : H a = none) (h : H b = some o) : a ≠ b := Ne.symm (ne_of_none h h')
theorem upd_new {H : Hp} {p a : Addr} {o u : HO} (n : H p = none) (h : H a = some u) : upd H p o a = some u := upd_get (ne_of_none h n) h
/-- another kind of thing was at p -/
theorem upd_kind {H : Hp} {p a : Addr} {o u u' : HO} (hp : H p = some u') (h : H a = some u) (n : u ≠ u') : upd H p o a = some u := upd_get (ne_of h hp n) h
/-! ### members -/
section
variable {i : Int} {p : Addr} {H : Hp} {Q : VK} {us : List Int} {K : PySem.W.Frag}
theorem eqV_int (a b : Int) : eqV (.int a) (.int b) = decide (a = b) := by
  have : eqV (.int a) (.int b) = (a == b) := rfl
  rw [this]; rfl
theorem inV_int : ∀ us : List Int, inV (.int i) (us.map V.int) = decide (i ∈ us)
  | [] => by simp [inV]
  | u :: us => by
    have h := inV_int us
    unfold inV at h ⊢
    rw [List.map_cons, List.any_cons, h, eqV_int]
    by_cases z : u = i
    · simp [z]
    · have z2 : ¬ i = u := fun q => z q.symm
      simp [z, z2]
theorem flat_int : ∀ us : List Int, (us.map V.int).all flatV = true
  | [] => rfl
  | u :: us => by rw [List.map_cons, List.all_cons, flat_int us]; rfl
theorem w_inI (hp : H p = some (.lst (us.map V.int))) (k : Q (.bl (decide (i ∈ us))) H) : rIn K false (.int i) (.ref p) H Q :=
  ⟨p, _, rfl, .inl (SqL.of hp), rfl, flat_int us, by rw [inV_int]; exact k⟩
theorem w_notInI (hp : H p = some (.lst (us.map V.int))) (k : Q (.bl (!decide (i ∈ us))) H) : rIn K true (.int i) (.ref p) H Q :=
  ⟨p, _, rfl, .inl (SqL.of hp), rfl, flat_int us, by rw [inV_int]; exact k⟩
theorem w_eqLI' {ns ms : List Int} {q : Addr} (hp : H p = some (.lst (ns.map V.int))) (hq : H q = some (.lst (ms.map V.int))) (k : Q (.bl (decide (ns = ms))) H) : aEq K (.ref p) (.ref q) H Q := w_eqLI (SqL.of hp) (SqL.of hq) k
theorem w_eqLI0 {ns : List Int} {q : Addr} (hp : H p = some (.lst (ns.map V.int))) (hq : H q = some (.lst [])) (k : Q (.bl (decide (ns = []))) H) : aEq K (.ref p) (.ref q) H Q := w_eqLI (ms := []) (SqL.of hp) (SqL.of hq) k
theorem w_neLI' {ns ms : List Int} {q : Addr} (hp : H p = some (.lst (ns.map V.int))) (hq : H q = some (.lst (ms.map V.int))) (k : Q (.bl (!decide (ns = ms))) H) : aNe K (.ref p) (.ref q) H Q := w_neLI (SqL.of hp) (SqL.of hq) k
theorem w_neLI0 {ns : List Int} {q : Addr} (hp : H p = some (.lst (ns.map V.int))) (hq : H q = some (.lst [])) (k : Q (.bl (!decide (ns = []))) H) : aNe K (.ref p) (.ref q) H Q := w_neLI (ms := []) (SqL.of hp) (SqL.of hq) k
end
/-! ### raise -/
theorem s_mkx {C : Addr} {fs : List Str} {ta : TA} {σ : St} {H : Hp} {Q : XK} (k : ta σ H fun vs H1 => vs.length = fs.length ∧ ∀ d, H1 d = none → Q (.ref C) (some d) (upd H1 d (.xd (fs.zip vs)))) : tMkX C fs ta σ H Q := k
theorem w_and {A B : Prop} (a : A) (b : B) : A ∧ B := ⟨a, b⟩
theorem s_xf {K : PySem.W.Frag} {a : Addr} {cls : Value} {d : Option Addr} {f : Str} {te : TE} {σ : St} {H : Hp} {Q : VK} (k : te σ H fun x H1 => x = .ref a ∧ ∃ (C dd : Addr) (fs : List (Str × V)) (v : V), cls = .ref C ∧ d = some dd ∧ XfC K C ∧ PySem.W.findIn K (.ref C) f = some none ∧ H1 dd = some (.xd fs) ∧ fs.lookup f = some v ∧ Q v H1) : tXfG K a cls d f te σ H Q := k
/-- the exception's field -/
def aXf (K : PySem.W.Frag) (a : Addr) (C : Addr) (dd : Addr) (f : Str) (Q : VK) : VK := fun x H1 => x = .ref a ∧ ∃ (fs : List (Str × V)) (v : V), XfC K C ∧ PySem.W.findIn K (.ref C) f = some none ∧ H1 dd = some (.xd fs) ∧ fs.lookup f = some v ∧ Q v H1
theorem s_xfR {K : PySem.W.Frag} {a C dd : Addr} {f : Str} {te : TE} {σ : St} {H : Hp} {Q : VK} (k : te σ H (aXf K a C dd f Q)) : tXfG K a (.ref C) (some dd) f te σ H Q := by
  have e : (fun x H1 => x = V.ref a ∧ ∃ (C' dd' : Addr) (fs : List (Str × V)) (v : V), Value.ref C = .ref C' ∧ some dd = some dd' ∧ XfC K C' ∧ PySem.W.findIn K (.ref C') f = some none ∧ H1 dd' = some (.xd fs) ∧ fs.lookup f = some v ∧ Q v H1) = aXf K a C dd f Q := by
    funext x H1
    apply propext
    constructor
    · rintro ⟨e, C', dd', fs, v, h1, h2, h3⟩
      cases h1
      cases h2
      exact ⟨e, fs, v, h3⟩
    · rintro ⟨e, fs, v, h3⟩
      exact ⟨e, C, dd, fs, v, rfl, rfl, h3⟩
  unfold tXfG
  rw [e]
  exact k
theorem w_xf {K : PySem.W.Frag} {a C dd : Addr} {f : Str} {H : Hp} {Q : VK} {fs : List (Str × V)} {v : V} (hd : H dd = some (.xd fs)) (hC : XfC K C) (hn : PySem.W.findIn K (.ref C) f = some none) (hl : fs.lookup f = some v) (k : Q v H) : aXf K a C dd f Q (.ref a) H := ⟨rfl, fs, v, hC, hn, hd, hl, k⟩
theorem w_isG {K : PySem.W.Frag} {a C D dd : Addr} {H : Hp} {Q : VK} {fs : List (Str × V)} {b : Bool} (hd : H dd = some (.xd fs)) (E : ExcC K C) (e : PySem.W.kitOne K (.ref C) (.ref D) = some b) (k : Q (.bl b) H) : rIsG K a (.ref C) (some dd) [.ref a, .ref D] H Q :=
  ⟨C, dd, fs, _, _, b, rfl, rfl, rfl, hd, E, .own D, e, k⟩
theorem w_isGv {K : PySem.W.Frag} {a C dd : Addr} {n : String} {H : Hp} {Q : VK} {fs : List (Str × V)} {b : Bool} (hd : H dd = some (.xd fs)) (E : ExcC K C) (e : PySem.W.kitOne K (.ref C) (.type n) = some b) (k : Q (.bl b) H) : rIsG K a (.ref C) (some dd) [.ref a, .ty n] H Q :=
  ⟨C, dd, fs, _, _, b, rfl, rfl, rfl, hd, E, .ty n, e, k⟩

/-! ### lists of pairs of ints -/
/-- xs holds, one by one, tuples of the pairs ps -/
inductive Prs (H : Hp) : List V → List (Int × Int) → Prop
  | nil : Prs H [] []
  | cons {r xs i j ps} : H r = some (.tup [.int i, .int j]) → Prs H xs ps → Prs H (.ref r :: xs) ((i, j) :: ps)
theorem Prs.kp {H H' : Hp} {xs : List V} {ps : List (Int × Int)} (h : Prs H xs ps) (k : ∀ a o, (∃ i j, o = HO.tup [.int i, .int j]) → H a = some o → H' a = some o) : Prs H' xs ps := by
  induction h with
  | nil => exact .nil
  | cons h1 _ ih => exact .cons (k _ _ ⟨_, _, rfl⟩ h1) ih
theorem Prs.len {H : Hp} {xs : List V} {ps : List (Int × Int)} (h : Prs H xs ps) : xs.length = ps.length := by
  induction h with
  | nil => rfl
  | cons _ _ ih => simp [ih]
theorem Prs.snoc {H : Hp} {xs : List V} {ps : List (Int × Int)} {r : Addr} {i j : Int} (h : Prs H xs ps) (e : H r = some (.tup [.int i, .int j])) : Prs H (xs ++ [.ref r]) (ps ++ [(i, j)]) := by
  induction h with
  | nil => exact .cons e .nil
  | cons h1 _ ih => exact .cons h1 ih
theorem Prs.get {H : Hp} {xs : List V} {ps : List (Int × Int)} (h : Prs H xs ps) : ∀ {k : Nat} {p : Int × Int}, ps[k]? = some p → ∃ r, xs[k]? = some (.ref r) ∧ H r = some (.tup [.int p.1, .int p.2]) := by
  induction h with
  | nil => intro k p e; simp at e
  | cons h1 _ ih =>
    intro k p e
    cases k with
    | zero => simp at e; subst e; exact ⟨_, rfl, h1⟩
    | succ k => simpa using ih (by simpa using e)
theorem Prs.new {H : Hp} {xs : List V} {ps : List (Int × Int)} {p : Addr} {o : HO} (h : Prs H xs ps) (hp : H p = none) : Prs (upd H p o) xs ps := h.kp fun a u _ e => by rw [upd_ne (ne_of_none e hp)]; exact e
/-- a list is changed -/
theorem Prs.mut {H : Hp} {xs ys : List V} {ps : List (Int × Int)} {p : Addr} {o : HO} (h : Prs H xs ps) (hp : H p = some (.lst ys)) : Prs (upd H p o) xs ps := h.kp fun a u z e => by
  obtain ⟨i, j, rfl⟩ := z
  rw [upd_ne (ne_of e hp (by intro q; cases q))]; exact e
theorem Prs.kp0 {H H' : Hp} {xs : List V} {ps : List (Int × Int)} (h : Prs H xs ps) (k : Kp [] H H') : Prs H' xs ps := h.kp fun a o _ e => k a o e List.not_mem_nil
theorem Prs.nilI {H : Hp} : Prs H [] [] := .nil
end Lk
namespace Lk
open PySem PySem.W PySem.Spec PyProof.Rows L2
theorem noCX {P : Program} (w : World) (H : L2.Hp) (s : Shared) (e : Value) (s' : Shared) (h : L2N.CX P w [] H s (fun _ _ _ => False) e s') : False := by
  obtain ⟨_, _, _, _, _, _, _, _, _, _, _, _, z⟩ := h
  exact z
section
variable {P : Program} {w : World} {K : Frag} {mg : Str → Option Value} {base : Heap}
theorem FnOk_of {x qual : Str} {st : Stmt} {f : Addr} {fd : FuncData} {N ps : List Str} {k : Nat} {sp : L2.Sp} (F : L2.Fun K x qual st f fd) (S : L2.FnScope N ps (L2.defScope st)) (len : ∀ vs H Q E, sp vs H Q E → vs.length = ps.length)
    (hbody : ∀ (cdv : Value) (A : Around) (outer : List Env) (s : Shared) (H : L2.Hp) (vs : List L2.V) (Q : L2.VK) (E : L2.XK), L2.Room k (A.deeper (envOfC qual (L2.defScope st) s.heap.objs.size f cdv)) → L2N.Takes (L2.cxOf (L2N.CX P w) P w K mg base N qual (L2.defScope st) f cdv A outer s H E) (fun cls d _ H' => E cls d H') →
      PassesOwn (model P w) (L2.cxOf (L2N.CX P w) P w K mg base N qual (L2.defScope st) f cdv A outer s H E).A (L2.cxOf (L2N.CX P w) P w K mg base N qual (L2.defScope st) f cdv A outer s H E).env (L2.cxOf (L2N.CX P w) P w K mg base N qual (L2.defScope st) f cdv A outer s H E).xe → sp vs H Q E →
      ∃ t, L2.PSs (L2.cxOf (L2N.CX P w) P w K mg base N qual (L2.defScope st) f cdv A outer s H E) (L2.defBody st) t ∧ t { nx := fun _ H' => Q .non H', rt := Q } (L2.start N vs) H) : L2.FnOk P w K mg base (L2N.CX P w) (k + 1) f fd ps sp := by
  obtain ⟨oc, od, kV, doc, pm, an, cdv, ct, osl, rfl, lk, hcd⟩ := F.ex
  exact L2.fn_of lk hcd S len fun A outer s H vs Q E hr hsp => hbody cdv A outer s H vs Q E hr (L2N.takes_of rfl rfl rfl rfl) (passes_of rfl) hsp
end
/-- facts of all of a list's members -/
def AllIn (K : Frag) (C : Addr) : List Str → Prop
  | [] => True
  | f :: fs => findIn K (.ref C) f = some none ∧ AllIn K C fs
theorem all_in {K : Frag} {C : Addr} : ∀ {fs : List Str}, AllIn K C fs → ∀ f ∈ fs, findIn K (.ref C) f = some none
  | [], _ => fun f hf => by cases hf
  | g :: fs, h => fun f hf => by
    rcases List.mem_cons.mp hf with z | z
    · rw [z]; exact h.1
    · exact all_in h.2 f z
section
variable {K : Frag} {C D : Addr} {b : Bool}
/-- D is an exception class -/
structure DC (K : Frag) (D : Addr) : Prop where
  i : isClsIn K D = true
  t : typeIn K (.ref D) = some (.type "type")
  b : subIn K (.ref D) (.type "BaseException") = some true
theorem kit_cls' (d : DC K D) (s : subIn K (.ref C) (.ref D) = some b) : kitCls K (.ref C) (.ref D) = some b := by
  have h2' : (clsIn K D).isSome = true := d.i
  have e2 : ((clsIn K D).isSome && typeIn K (.ref D) == some (.type "type")) = true := by
    rw [h2', d.t] <;> rfl
  show (if ((clsIn K D).isSome && typeIn K (.ref D) == some (.type "type")) = true then subIn K (.ref C) (.ref D) else none) = some b
  rw [if_pos e2]
  exact s
theorem kit_mk (d : DC K D) (r : subIn K (.ref C) (.ref C) = some true) (s : subIn K (.ref C) (.ref D) = some b) : kitOne K (.ref C) (.ref D) = some b ∧ exmOne K (.ref C) (.ref D) = some b := by
  have k := kit_cls' d s
  refine ⟨?_, ?_⟩
  · unfold kitOne
    by_cases z : C = D
    · subst z
      rw [r] at s
      rw [← s]
      rw [if_pos (by simp)]
    · rw [if_neg (by simp [z])]
      exact k
  · unfold exmOne
    rw [if_pos (by rw [d.b] <;> rfl)]
    exact k
theorem kit_val (s : subIn K (.ref C) (.type "ValueError") = some true) : kitOne K (.ref C) (.type "ValueError") = some true := by
  have e : kitOne K (.ref C) (.type "ValueError") = if kitMeta "ValueError" = true then subIn K (.ref C) (.type "ValueError") else none := rfl
  rw [e, if_pos (by decide +kernel)]
  exact s
/-- what an own exception's class says -/
theorem exc_ef (hg : findIn K (.ref C) "__getattribute__" = some (some (.builtin "BaseException.__getattribute__"))) (hk : findIn K (.ref C) "__getattr__" = some none) (hs : subIn K (.ref C) (.type "BaseException") = some true) (hd : hasDictIn K C = true)
    (ha : findIn K (.ref C) "__class__" = some (some (.builtin "object.__class__"))) (hn : specialIn K (.builtin "object.__class__") "__get__" = some (some (.builtin "getset_descriptor.__get__"))) (ht : takesIn K (.builtin "object.__class__") = some true) (hm : mroIn K C (.type "object") = some true) : L2.ExcC K C ∧ L2.XfC K C :=
  ⟨⟨hg, hk, hs, hd, ha, hn, ht, hm⟩, ⟨hg, hk, hs, hd⟩⟩
theorem nm_mk {h : Heap} {mg : Str → Option Value} {x : Str} {st : Stmt} {f : Addr} {oc : Value} {od an : Option Addr} {osl : Array (Option Value)} {kV doc pm cdv ct : Value} (X : K.In h) (G : h.Ns mainGlobals mg) (a : nsIn K mainGlobals x = some (some (.ref f)))
    (l : K.lookup f = some ⟨oc, od, .func (fnOf x x (L2.defArgs st) (L2.defBody st) (L2.defScope st) .none kV doc pm an cdv ct), osl⟩) (c : codeIn K cdv x = true) (k : keepIn K (.ref f) = true) :
    Nm K mg x f ∧ L2.Fun K x x st f (fnOf x x (L2.defArgs st) (L2.defBody st) (L2.defScope st) .none kV doc pm an cdv ct) := ⟨⟨mg_of X G a, k⟩, L2.fun_mk l c k⟩
end
end Lk
namespace LkX
open PySem PySem.W PySem.Calls PyProof.Rows PySem.HandSPX
theorem exc_mk {prog : Program} {K : Frag} {C fI : Addr} {fs : List Str} {st : Stmt} {qual : Str} {nm q : Str} {N : Addr} {bs bm : List Value} {sn : List Str} {sub : List Value} {ab : Bool} {col : Option Bool} {dd : Option Addr} {k0 k1 k2 k3 k5 : Option Value}
    {oc : Value} {od : Option Addr} {doc pm : Value} {an : Option Addr} {cda : Addr} {ct : Value} {cc : Addr} {osl : Array (Option Value)} {ccl : Value} {cdd : Option Addr} {cvs : Array Value} {ccs : Array (Option Value)} {file : Str} {tf : Tok} {cl : Value} {cld : Option Addr} {csl : Array (Option Value)} {ar : Arg}
    (iC : findIn K (.ref C) "__init__" = some (some (.ref fI)))
    (xL : K.lookup C = some (excClassObj nm q C N bs bm true sn sub ab col dd k0 k1 k2 k3 k5 "ValueError.__new__"))
    (l : K.lookup fI = some ⟨oc, od, .func (ksFn "__init__" qual (L2.defArgs st) (L2.defBody st) (L2.defScope st) .none .none doc pm an (.ref cda) ct cc), osl⟩) (c : codeIn K (.ref cda) qual = true)
    (l2 : K.lookup cda = some ⟨ccl, cdd, .fields cvs, ccs⟩) (l3 : K.lookup cc = some ⟨cl, cld, .cell (some (.ref C)), csl⟩)
    (sa : findIn K (.ref C) "__setattr__" = some (some (.builtin "object.__setattr__"))) (tI : typeIn K (.ref fI) = some (.type "function")) (kC : keepIn K (.ref C) = true) (exC : subIn K (.ref C) (.type "BaseException") = some true)
    (tyC : typeIn K (.ref C) = some (.type "type")) (vE : subIn K (.ref C) (.type "ValueError") = some true) (op : nsIn K cStatics "thirdparty.any" = some none) (gs : nsIn K mainGlobals "super" = some none)
    (su : ks_superIn K C C "__init__" = some (some (.builtin "ValueError.__init__"))) (bmv : refsVE bm = true) (noN : ∀ f ∈ fs, findIn K (.ref C) f = some none)
    (v2 : cvs[2]? = some (.str file tf)) (fil : ((prog.main.file : Str) == file) = true) (ib : InitBody fs (L2.defBody st)) (hd : ((L2.defArgs st).posonlyargs ++ (L2.defArgs st).args).head? = some ar) (har : ar.arg = "self")
    (s0 : (prog.main.scope.names.lookup ("super" : Str)).isSome = false) (s1 : (L2.defScope st).names.lookup ("super" : Str) = some .globalImplicit) (s2 : (L2.defScope st).names.lookup ("__class__" : Str) = some .free) (s3 : ∀ x ∈ (L2.defScope st).names, x.2 ≠ .cell)
    (s4 : ∀ f ∈ ("self" : Str) :: fs, (L2.defScope st).names.lookup f = some .local) (s5 : (L2.defScope st).isCoroutine = false) (s6 : (L2.defScope st).isGenerator = false) (s7 : (L2.defScope st).kind = .function)
    (ba : ∀ us : List Value, us.length = (("self" : Str) :: fs).length → bindArgs (ksFn "__init__" qual (L2.defArgs st) (L2.defBody st) (L2.defScope st) .none .none doc pm an (.ref cda) ct cc) ⟨us, []⟩ = pure ((("self" : Str) :: fs).zip us))
    (nd : (("self" : Str) :: fs).Nodup) (nb : ∀ f ∈ ("self" : Str) :: fs, (f == ("__debug__" : Str)) = false) (few : fs.length ≤ 100) : ExcTxt prog K C fI fs where
  cls := ⟨nm, q, N, bs, bm, sn, sub, ab, col, dd, k0, k1, k2, k3, k5, xL, bmv⟩
  sa := sa
  noN := noN
  iC := iC
  tI := tI
  kC := kC
  exC := exC
  tyC := tyC
  vE := vE
  su := su
  op := op
  gs := gs
  fn := ⟨qual, _, _, _, oc, od, doc, pm, an, cda, ct, cc, osl, ccl, cdd, cvs, ccs, file, tf, cl, cld, csl, ar, l, c, l2, v2, fil, l3, ib, hd, har, s0, s1, s2, s3, s4, s5, s6, s7, ba⟩
  nd := nd
  nb := nb
  few := few
end LkX
namespace Lk
open PySem PySem.Spec PyProof.Rows L2

/-! ### static methods -/
/-- C.m is a static method: its record at p, its def at g -/
structure CSta (K : PySem.W.Frag) (C : Addr) (m : Str) (p g : Addr) : Prop where
  at_ : PySem.W.findCls K (.ref C) (.type "type") m = some (.get (.builtin "staticmethod.__get__") (.ref p) .none (.ref C))
  rc : ∃ rest, PySem.W.recIn K p "staticmethod" = some (.ref g :: rest)
  kp : PySem.W.keepIn K (.ref g) = true
theorem CSta.mk' {K : PySem.W.Frag} {C : Addr} {m : Str} {p g : Addr} {rest : List Value} (a : PySem.W.findCls K (.ref C) (.type "type") m = some (.get (.builtin "staticmethod.__get__") (.ref p) .none (.ref C))) (b : PySem.W.recIn K p "staticmethod" = some (.ref g :: rest)) (c : PySem.W.keepIn K (.ref g) = true) : CSta K C m p g := ⟨a, ⟨rest, b⟩, c⟩
section
variable {X : Cx} {pins : List (Addr × Obj)} {σ : St} {H : Hp} {s : Shared} {C p g : Addr} {m : Str} {A : Around} {E : Value → Shared → Prop}
theorem getmethst_ok {pl : Sem Bool} {Q : Value × List Value → Shared → Prop} (I : Inv X pins σ H s) (r : ClX.CRead X.K C (.type "type")) (k : CSta X.K C m p g)
    (h : ∀ s', Inv X pins σ H s' → Q (.ref g, []) s') : wpAny (model X.prog X.w) A (getMethod (.ref C) m pl) Q E s := by
  obtain ⟨rest, hp⟩ := k.rc
  refine PySem.W.method_cls I.kIn r.ga (PySem.W.cls_bind I.kIn r.rd k.at_ ?_)
  refine wpAny_call (PySem.W.sm_get (s := { s with toks := s.toks + 1 }) I.kIn hp (PySem.W.handed_on rfl ?_))
  exact h _ (I.tok _)
end
section
variable {X : Cx} {k : Nat} {f C p0 g : Addr} {ps : List Str} {sp : Sp} {W : WX} {x m : Str} {p pos apos : Pos} {e o : Expr} {es : List Expr} {ta : TE} {t : TA}
/-- how o.m(args) goes -/
def MTree (X : Cx) (pl : Sem Bool) (o : Expr) (m : Str) (args : List Expr) (pos apos : Pos) : Prop :=
  eval (.Call (.Attribute o m apos) args [] pos) X.env = (do let obj ← eval o X.env; standAt apos.atName; let (fn, fst) ← holding [obj] (getMethod obj m pl); callWith pos fn fst (backTo pos (starEach args X.env)) (backToKw pos (keywordEach [] X.env)))
/-- C.m(e, ..), m static -/
theorem pe_static {pl : Sem Bool} (G : FnA X.prog X.w X.K X.mg X.base k g ps sp) (hr : Room k X.A) (r : ClX.CRead X.K C (.type "type")) (c : CSta X.K C m p0 g) (hm : X.mg x = some (.ref C)) (tk : L2N.Takes X W)
    (ha : PA X (e :: es) t) (hg : Gl X x := by rfl) (hdb : (x == ("__debug__" : Str)) = false := by decide) (hst : starEach (e :: es) X.env = (false, eval e X.env) :: starEach es X.env := by rfl) (hpl : (backTo pos (starEach es X.env)).any (·.1) = false := by rfl) (ht : MTree X pl (.Name x p) m (e :: es) pos apos := by rfl) :
    PE X (.Call (.Attribute (.Name x p) m apos) (e :: es) [] pos) (tCallS sp (WE W) t) := by
  obtain ⟨fd, F, b⟩ := G
  refine ⟨fun pins s σ H Q I h => ?_⟩
  refine PySem.W.methodCall_KW (pl := pl) (ld_glob I hg hm ?_ hdb) ht
  refine getmethst_ok I r c fun s2 I2 => ?_
  refine PySem.W.callWith_K (first := []) (h₀ := X.base) I.ok.mod.kin c.kp (thn (ha.run pos pins s2 σ H _ I2 h) fun us s3 ⟨vs, H2, I3, rv, q2⟩ => ⟨I3.kIn, ?_⟩) hst hpl
  exact run_fnS (E := WE W) F hr b (L2N.passAt tk σ) I3 rv q2
/-! ### methods of instances -/
/-- o.m(..) -/
def tMethS (K : PySem.W.Frag) (C : Addr) (m : Str) (sp : Sp) (E : St → XK) (ta : TE) (t : TA) : TE := fun σ H Q => ta σ H fun x H1 => ∃ a dx fs, x = .ref a ∧ H1 a = some (.ins C dx fs) ∧ fs.lookup m = none ∧ t σ H1 fun vs H2 => sp (x :: vs) H2 Q (E σ)
theorem pe_methS {pl : Sem Bool} (G : FnA X.prog X.w X.K X.mg X.base k f ps sp) (hr : Room k X.A) (c : Cls X.K C) (hm : Meth X.K C m f) (tk : L2N.Takes X W) (he : PE X o ta) (ha : PA X (e :: es) t)
    (hst : starEach (e :: es) X.env = (false, eval e X.env) :: starEach es X.env := by rfl) (hpl : (backTo pos (starEach es X.env)).any (·.1) = false := by rfl) (ht : MTree X pl o m (e :: es) pos apos := by rfl) :
    PE X (.Call (.Attribute o m apos) (e :: es) [] pos) (tMethS X.K C m sp (WE W) ta t) := by
  obtain ⟨fd, F, b⟩ := G
  refine ⟨fun pins s σ H Q I h => ?_⟩
  refine PySem.W.methodCall_KW (pl := pl) (thn (he.run pins s σ H _ I h) fun u s1 ⟨x, H1, I1, rx, a, dx, fs, ex, ea, l, q⟩ => ?_) ht
  subst ex
  obtain rfl : u = Value.ref a := rx
  refine getmeth_ok I1 ea c hm l ?_
  refine PySem.W.callWith_K (first := [.ref a]) (h₀ := X.base) I.ok.mod.kin hm.kp (thn (ha.run pos pins s1 σ H1 _ I1 q) fun us s2 ⟨vs, H2, I2, r, q2⟩ => ⟨I2.kIn, ?_⟩) hst hpl
  exact run_fnS (E := WE W) (us := .ref a :: us) (vs := .ref a :: vs) F hr b (L2N.passAt tk σ) I2 (.cons rfl r) q2
theorem pe_methS0 {pl : Sem Bool} (G : FnA X.prog X.w X.K X.mg X.base k f ps sp) (hr : Room k X.A) (c : Cls X.K C) (hm : Meth X.K C m f) (tk : L2N.Takes X W) (he : PE X o ta) (ht : MTree X pl o m [] pos apos := by rfl) :
    PE X (.Call (.Attribute o m apos) [] [] pos) (tMethS X.K C m sp (WE W) ta tNil) := by
  obtain ⟨fd, F, b⟩ := G
  refine ⟨fun pins s σ H Q I h => ?_⟩
  refine PySem.W.methodCall_KW (pl := pl) (thn (he.run pins s σ H _ I h) fun u s1 ⟨x, H1, I1, rx, a, dx, fs, ex, ea, l, q⟩ => ?_) ht
  subst ex
  obtain rfl : u = Value.ref a := rx
  refine getmeth_ok I1 ea c hm l ?_
  exact PySem.W.callWith_K0 (first := [.ref a]) I1.kIn hm.kp (run_fnS (E := WE W) (us := [.ref a]) (vs := [.ref a]) F hr b (L2N.passAt tk σ) I1 (.cons rfl .nil) q)
/-! ### C(e, ..) -/
def tMakeS (C : Addr) (sp : Sp) (E : St → XK) (t : TA) : TE := fun σ H Q => t σ H fun vs H1 => ∀ x dx, H1 x = none → H1 dx = none → dx ≠ x →
  sp (.ref x :: vs) (upd (upd H1 dx (.own x)) x (.ins C dx [])) (fun v H2 => v = .non ∧ Q (.ref x) H2) (E σ)
theorem pe_makeS (G : FnA X.prog X.w X.K X.mg X.base k f ps sp) (M : Mk X.K C f) (hr : Room (k + 1) X.A) (hm : X.mg x = some (.ref C)) (tk : L2N.Takes X W)
    (ha : PA X (e :: es) t) (hg : Gl X x := by rfl) (hdb : (x == ("__debug__" : Str)) = false := by decide) (he : starEach (e :: es) X.env = (false, eval e X.env) :: starEach es X.env := by rfl) (hpl : (backTo pos (starEach es X.env)).any (·.1) = false := by rfl) :
    PE X (.Call (.Name x p) (e :: es) [] pos) (tMakeS C sp (WE W) t) := by
  obtain ⟨fd, F, b⟩ := G
  refine ⟨fun pins s σ H Q I h => ?_⟩
  refine wpAny_Call_Name_kw (ld_glob I hg hm ?_ hdb)
  refine PySem.W.callWith_K (h₀ := X.base) I.ok.mod.kin M.kp (thn (ha.run pos pins s σ H _ I h) fun us s1 ⟨vs, H1, I1, r, q⟩ => ⟨I1.kIn, ?_⟩) he hpl
  have hq := q (s1.heap.objs.size + 1) s1.heap.objs.size (I1.hok.fresh (Nat.le_succ _)) (I1.hok.fresh (Nat.le_refl _)) (Nat.ne_of_lt (Nat.lt_succ_self _))
  have I2 := Inv.made (C := C) I1
  have r2 : Vals (V.ref (s1.heap.objs.size + 1) :: vs) (Value.ref (s1.heap.objs.size + 1) :: us) := .cons rfl r
  have hl : ((Value.ref (s1.heap.objs.size + 1) :: us) ++ []).length = ps.length := by
    rw [List.append_nil, ← r2.length]; exact F.len _ _ _ _ hq
  have hb2 := b _ (Value.ref (s1.heap.objs.size + 1) :: us) I2.kIn hl
  rw [List.append_nil] at hb2
  refine wpAny_call (make_map (f := f) I1.kIn M.makes M.init (beq_iff_eq.mp M.fn) (codeAny_mono (F.run _ X.stack _ _ ⟨Value.ref (s1.heap.objs.size + 1) :: us, []⟩ (Value.ref (s1.heap.objs.size + 1) :: us) _ _ _ (hr.make C us [])
    (I2.env0.make C us []) hb2 r2 hq) fun r s' hq' => ?_))
  cases r with
  | error e => exact L2N.passAt tk σ pins _ _ e s' I2 hq'
  | ok fl =>
    cases fl with
    | ret u =>
      obtain ⟨v, H', I3, rv, ev, q3⟩ := I2.after hq'
      subst ev
      exact ⟨rv, ⟨V.ref (s1.heap.objs.size + 1), H', I3, rfl, q3⟩⟩
    | next => exact False.elim hq'
    | brk => exact False.elim hq'
    | cont => exact False.elim hq'
end
/-! ### the readings, one step -/
section
variable {σ : St} {H : Hp} {Q : VK} {D : Ends} {te tv : TE} {tl : TA} {K : PySem.W.Frag} {C a dx p : Addr} {f m : Str} {fs : List (Str × V)} {v y : V} {sp : Sp} {E : St → XK} {A : Prop}
/-- x.f -/
def aFld (K : PySem.W.Frag) (f : Str) (Q : VK) : VK := fun x H1 => ∃ a C dx fs v, x = .ref a ∧ H1 a = some (.ins C dx fs) ∧ Cls K C ∧ NoAttr K C f ∧ fs.lookup f = some v ∧ Q v H1
theorem s_fld (k : te σ H (aFld K f Q)) : tFld K te f σ H Q := k
theorem w_fld (hp : H a = some (.ins C dx fs)) (c : Cls K C) (n : NoAttr K C f) (l : fs.lookup f = some v) (k : Q v H) : aFld K f Q (.ref a) H := ⟨a, C, dx, fs, v, rfl, hp, c, n, l, k⟩
/-- x.f = y -/
def aSFld (K : PySem.W.Frag) (f : Str) (y : V) (k : Hp → Prop) : VK := fun x H2 => ∃ a C dx fs, x = .ref a ∧ H2 a = some (.ins C dx fs) ∧ Cls K C ∧ NoAttr K C f ∧ fs.length < 1000 ∧ k (upd H2 a (.ins C dx (putF f y fs)))
theorem s_sfld (k : tv σ H fun y H1 => te σ H1 (aSFld K f y fun H3 => D.nx σ H3)) : sFld K te tv f D σ H := k
theorem w_sfld {k : Hp → Prop} {fs' : List (Str × V)} (hp : H a = some (.ins C dx fs)) (c : Cls K C) (n : NoAttr K C f) (l : fs.length < 1000) (e : putF f y fs = fs') (q : k (upd H a (.ins C dx fs'))) : aSFld K f y k (.ref a) H :=
  ⟨a, C, dx, fs, rfl, hp, c, n, l, by rw [e]; exact q⟩
/-- x.m(..): the object -/
def aMeth (C : Addr) (m : Str) (k : V → Hp → Prop) : VK := fun x H1 => ∃ a dx fs, x = .ref a ∧ H1 a = some (.ins C dx fs) ∧ fs.lookup m = none ∧ k x H1
theorem s_methS (k : te σ H (aMeth C m fun x H1 => tl σ H1 fun vs H2 => sp (x :: vs) H2 Q (E σ))) : tMethS K C m sp E te tl σ H Q := k
theorem w_meth {k : V → Hp → Prop} (hp : H a = some (.ins C dx fs)) (l : fs.lookup m = none) (q : k (.ref a) H) : aMeth C m k (.ref a) H := ⟨a, dx, fs, rfl, hp, l, q⟩
theorem s_makeS (k : tl σ H fun vs H1 => ∀ x dx, H1 x = none → H1 dx = none → dx ≠ x → sp (.ref x :: vs) (upd (upd H1 dx (.own x)) x (.ins C dx [])) (fun v H2 => v = .non ∧ Q (.ref x) H2) (E σ)) : tMakeS C sp E tl σ H Q := k
def aCVal (K : PySem.W.Frag) (f : Str) (Q : VK) : VK := fun x H1 => ∃ C mc v u, x = .ref C ∧ ClX.CRead K C mc ∧ ClX.CVal K C mc f v u ∧ Q v H1
theorem s_cval (k : te σ H (aCVal K f Q)) : ClX.tCVal K te f σ H Q := k
theorem w_cval {mc u : Value} (r : ClX.CRead K C mc) (c : ClX.CVal K C mc f v u) (k : Q v H) : aCVal K f Q (.ref C) H := ⟨C, mc, v, u, rfl, r, c, k⟩
end
theorem put_nil {f : Str} {v : V} : putF f v [] = [(f, v)] := rfl
theorem put_hit {f : Str} {v x : V} {r : List (Str × V)} : putF f v ((f, x) :: r) = (f, v) :: r := by
  unfold putF
  rw [if_pos rfl]
theorem put_miss {f g : Str} {v x : V} {r r' : List (Str × V)} (n : g ≠ f) (e : putF f v r = r') : putF f v ((g, x) :: r) = (g, x) :: r' := by
  rw [← e]
  show (if g = f then _ else _) = _
  rw [if_neg n]
end Lk
namespace Lk
open PySem PySem.Spec PyProof.Rows L2

/-! ### a range that is kept, then walked -/
section
variable {X : Cx} {tg : Expr}
def iRngV (te : TE) : TI := fun σ H R => te σ H fun x H1 => ∃ p lo hi, x = .ref p ∧ H1 p = some (.rng lo hi) ∧ (-(2 ^ 62) ≤ lo ∧ lo < 2 ^ 62 ∧ -(2 ^ 62) ≤ hi ∧ hi < 2 ^ 62) ∧ R (Itr lo (hi - lo).toNat) H1
theorem pi_rng {e : Expr} {te : TE} (he : PE X e te) : PI X tg e (iRngV te) := by
  refine ⟨fun pins s σ H R I h => ?_⟩
  refine thn (he.run pins s σ H _ I h) fun v0 s1 ⟨x, H1, I1, r1, q1⟩ => ?_
  obtain ⟨p, lo, hi, ex, hp, ⟨h1, h2, h3, h4⟩, q⟩ := q1
  subst ex
  cases r1
  obtain ⟨t, u, v, ho⟩ : ∃ t u v, s1.heap.get? p = some { cls := .type "range", data := .fields #[.int lo t, .int hi u, .int 1 v] } := I1.hok p _ hp
  refine wpAny_pyIter_range (a := lo) (b := hi) (c := 1) (t := t) (u := u) (v := v) ho (small_one h1 h2 h3 h4) ?_
  refine ⟨s1.heap.objs.size, [s1.heap.objs.size], _, _, H1, rfl, I1.kept (t' := s1.toks) fun b o e => Heap.get?_push_of_some _ e, turn_range _ lo (hi - lo).toNat, ?_, fun b hb => ?_, q⟩
  · have e1 : lo + ((0 : Nat) : Int) * 1 = lo := by simp
    have e2 : (((hi - lo).toNat : Nat) : Int) - ((0 : Nat) : Int) = Builtin.Range.rangeSize lo hi 1 := by rw [rangeSize_one]; split <;> omega
    show IsRangeIter _ _ (lo + ((0 : Nat) : Int) * 1) ((((hi - lo).toNat : Nat) : Int) - ((0 : Nat) : Int)) 1
    rw [e1, e2]
    exact Heap.get?_push_size _ rfl
  · have e : b = s1.heap.objs.size := by simpa using hb
    subst e
    exact I1.fpOk (Nat.le_refl _) (I1.hok.fresh (Nat.le_refl _))
def rRange2 : List V → Hp → VK → Prop := fun vs H Q => ∃ i j, vs = [V.int i, V.int j] ∧ ∀ p, H p = none → Q (.ref p) (upd H p (.rng i j))
theorem b_range2 : CallR X (.type "range") rRange2 := cr_range2
/-! ### texts -/
def rJoin (K : PySem.W.Frag) : V → List V → Hp → VK → Prop := fun x xs H Q => ∃ a p, ∃ ys : List Str, x = .str a ∧ xs = [.ref p] ∧ (SqL K H p (ys.map V.str) ∨ SqT K H p (ys.map V.str)) ∧ (ys.map (·.length)).sum + ys.length * a.length ≤ 16777216 ∧ Q (.str (Txt.join a ys)) H
theorem m_join : MtR X "str.join" (rJoin X.K) := mt_join
def rSplit : V → List V → Hp → VK → Prop := fun x xs H Q => ∃ a b, x = .str a ∧ xs = [.str b] ∧ (b.length == 0) = false ∧ a.length + 2 ≤ sizeLine ∧ rNewStrs (Txt.split a b) H Q
theorem m_split : MtR X "str.split" rSplit := mt_split
def rDigit : V → List V → Hp → VK → Prop := fun x xs H Q => ∃ a, x = .str a ∧ xs = [] ∧ True ∧ Q (.bl (Txt.isdigit a)) H
theorem m_isdigit : MtR X "str.isdigit" rDigit := mt_isdigit
def rAscii : V → List V → Hp → VK → Prop := fun x xs H Q => ∃ a, x = .str a ∧ xs = [] ∧ True ∧ Q (.bl (Txt.isascii a)) H
theorem m_isascii : MtR X "str.isascii" rAscii := mt_isascii
def rIntS : List V → Hp → VK → Prop := fun xs H Q => ∃ a n, xs = [.str a] ∧ PySem.intText? a = some n ∧ a.length ≤ 640 ∧ Q (.int n) H
def rIntA : List V → Hp → VK → Prop := fun xs H Q => rInt1 xs H Q ∨ rIntS xs H Q
theorem b_intA : CallR X (.type "int") rIntA := CallR.or b_int call_int_str
def rStrI : List V → Hp → VK → Prop := fun xs H Q => ∃ i : Int, xs = [.int i] ∧ i.natAbs.log2 < 1920 ∧ Q (.str (Str.ofString (toString i))) H
theorem b_str : CallR X (.type "str") rStrI := call_str_int
end
section
variable {K : PySem.W.Frag} {H : Hp} {Q : VK} {a b : Str} {p : Addr} {ys : List Str} {i j n : Int} {us : List Int} {α : Type} {f : α → V} {vs : List α}
theorem w_join (hp : H p = some (.lst (ys.map V.str))) (hz : (ys.map (·.length)).sum + ys.length * a.length ≤ 16777216) (k : Q (.str (Txt.join a ys)) H) : rJoin K (.str a) [.ref p] H Q := ⟨a, p, ys, rfl, rfl, .inl (SqL.of hp), hz, k⟩
theorem w_split (hb : (b.length == 0) = false) (hz : a.length + 2 ≤ sizeLine) (k : ∀ p, H p = none → Q (.ref p) (upd H p (.lst ((Txt.split a b).map V.str)))) : rSplit (.str a) [.str b] H Q := ⟨a, b, rfl, rfl, hb, hz, k⟩
theorem w_digit (k : Q (.bl (Txt.isdigit a)) H) : rDigit (.str a) [] H Q := ⟨a, rfl, rfl, trivial, k⟩
theorem w_ascii (k : Q (.bl (Txt.isascii a)) H) : rAscii (.str a) [] H Q := ⟨a, rfl, rfl, trivial, k⟩
theorem w_intA (k : Q (.int i) H) : rIntA [.int i] H Q := .inl (w_int k)
theorem w_intB {c : Bool} (k : Q (.int (if c then 1 else 0)) H) : rIntA [.bl c] H Q := .inl (.inr ⟨c, rfl, k⟩)
theorem w_intS (h : PySem.intText? a = some n) (hl : a.length ≤ 640) (k : Q (.int n) H) : rIntA [.str a] H Q := .inr ⟨a, n, rfl, h, hl, k⟩
theorem w_strI (h : i.natAbs.log2 < 1920) (k : Q (.str (Str.ofString (toString i))) H) : rStrI [.int i] H Q := ⟨i, rfl, h, k⟩
theorem w_rngV (k : ∀ p, H p = none → Q (.ref p) (upd H p (.rng i j))) : rRange2 [.int i, .int j] H Q := ⟨i, j, rfl, k⟩
theorem w_ixQ [Inhabited α] (hp : SqL K H p (vs.map f)) (h0 : 0 ≤ i) (hl : i.toNat < vs.length) (k : Q (f (vs.getD i.toNat default)) H) : rIx K (.ref p) (.int i) H Q :=
  .inl ⟨p, _, _, _, rfl, rfl, hp, atI_pos h0 (map_getD hl), k⟩
theorem w_lenQ (hp : SqL K H p (vs.map f)) (k : Q (.int vs.length) H) : rLen K [.ref p] H Q := ⟨_, _, rfl, .inl ⟨_, hp, rfl⟩, by rw [List.length_map]; exact k⟩
end
section
variable {σ : St} {H : Hp} {Q : VK} {D : Ends} {g : TG} {tt : TT} {te tl : TE} {tb : TS} {K : PySem.W.Frag} {vs : List Nat} {α β : Type} {f : α → V} {f' : β → V}
def aCRngV (g : TG) (tt : TT) (te : TE) (vs : List Nat) (σ : St) (Q : VK) (x : V) (H1 : Hp) : Prop := ∃ p lo hi, x = .ref p ∧ H1 p = some (.rng lo hi) ∧ (-(2 ^ 62) ≤ lo ∧ lo < 2 ^ 62 ∧ -(2 ^ 62) ≤ hi ∧ hi < 2 ^ 62) ∧ aComp (Itr lo (hi - lo).toNat) g tt te vs σ Q H1
theorem s_lcV (k : tl σ H fun x H1 => aCRngV g tt te vs σ Q x H1) : tLc (iRngV tl) g tt te vs σ H Q := k
theorem w_lcV (ψ : Nat → Option β) {p : Addr} {lo n : Int} (hp : H p = some (.rng lo n)) (hl1 : -(2 ^ 62) ≤ lo) (hl2 : lo < 2 ^ 62) (hn1 : -(2 ^ 62) ≤ n) (hn2 : n < 2 ^ 62) (hz : (n - lo).toNat < sizeLine)
    (hs : ∀ (D : Addr) (i : Nat) (acc : List V) (H' : Hp), H D = none → lo + (i : Int) < n → Kp [] H H' → H' D = some (.lst acc) → acc.length < sizeLine → g (.int (lo + (i : Int))) (wipe σ vs) H' fun σ2 H2 => wipe σ2 vs = wipe σ vs ∧ tt σ2 H2 fun b H3 =>
      if b = true then te σ2 H3 (aKeep H D (acc ++ (ψ i).toList.map f')) else cNx H D (acc ++ (ψ i).toList.map f') H3)
    (k : ∀ D H', H D = none → Kp [] H H' → H' D = some (.lst (((List.range (n - lo).toNat).filterMap ψ).map f')) → Q (.ref D) H') : aCRngV g tt te vs σ Q (.ref p) H :=
  ⟨p, lo, n, rfl, hp, ⟨hl1, hl2, hn1, hn2⟩, w_lcR ψ hl1 hl2 hn1 hn2 hz hs k⟩
theorem w_lcE (ψ : Nat → α → Option β) {us : List α} {p : Addr} {j j' : Nat} (hp : H p = some (.lst (us.map f))) (hz : us.length < sizeLine)
    (hs : ∀ (D : Addr) (i : Nat) (u : α) (T : Addr) (acc : List V) (H' : Hp), H D = none → us[i]? = some u → Kp [] H H' → H' D = some (.lst acc) → acc.length < sizeLine → H' T = none → T ≠ D →
      wipe (((wipe σ vs).set j (some (.int (i : Int)))).set j' (some (f u))) vs = wipe σ vs ∧ tt (((wipe σ vs).set j (some (.int (i : Int)))).set j' (some (f u))) (upd H' T (.tup [.int (i : Int), f u])) fun b H3 =>
      if b = true then te (((wipe σ vs).set j (some (.int (i : Int)))).set j' (some (f u))) H3 (aKeep H D (acc ++ (ψ i u).toList.map f')) else cNx H D (acc ++ (ψ i u).toList.map f') H3)
    (k : ∀ D H', H D = none → Kp [] H H' → H' D = some (.lst ((us.zipIdx.filterMap fun q => ψ q.2 q.1).map f')) → Q (.ref D) H') : aCEnum K (gTup K 2 (gCons (gName j) (gCons (gName j') gNil))) tt te vs σ Q [.ref p] H := by
  refine ⟨p, _, rfl, SqL.of hp, fun D hD => ?_⟩
  refine ⟨fun i m H' => m = us.length - i ∧ i ≤ us.length ∧ cNx H D (((us.take i).zipIdx.filterMap fun q => ψ q.2 q.1).map f') H', ⟨us.length, by simp, Nat.zero_le _, ⟨Kp.refl.new hD, upd_same⟩⟩, ?_⟩
  rintro i m H' ⟨rfl, hi, q1, q2⟩
  have hpp := q1.at0 hp
  by_cases hlt : i < us.length
  · have hu : us[i]? = some us[i] := List.getElem?_eq_getElem hlt
    refine .inr ⟨⟨us.map f, f us[i], SqL.of hpp, by rw [List.getElem?_map, hu]; rfl⟩, cNx H D (((us.take (i + 1)).zipIdx.filterMap fun q => ψ q.2 q.1).map f'), fun H2 p' => ⟨us.length - (i + 1), by omega, rfl, hlt, p'⟩, fun x H2 y => ?_⟩
    obtain ⟨T, z, e1, e2, e3, y⟩ := y
    subst e1 e3
    have ez := y _ (SqL.of hpp)
    rw [List.getElem?_map, hu] at ez
    cases ez
    have hlen : (((us.take i).zipIdx.filterMap fun q => ψ q.2 q.1).map f').length < sizeLine := by
      have := List.length_filterMap_le (fun q : α × Nat => ψ q.2 q.1) (us.take i).zipIdx
      rw [List.length_zipIdx, List.length_take] at this
      rw [List.length_map]
      omega
    have hT : T ≠ D := Ne.symm (ne_of_none q2 e2)
    have e : us.take (i + 1) = us.take i ++ [us[i]] := by
      rw [List.take_succ, hu]; rfl
    have e2' : ((us.take (i + 1)).zipIdx.filterMap fun q => ψ q.2 q.1).map f' = ((us.take i).zipIdx.filterMap fun q => ψ q.2 q.1).map f' ++ (ψ i us[i]).toList.map f' := by
      rw [e, List.zipIdx_append, List.filterMap_append, List.map_append]
      have hl : (us.take i).length = i := by rw [List.length_take]; omega
      rw [hl]
      cases q : ψ i us[i] <;> simp [q]
    rw [e2']
    exact ⟨T, _, rfl, .inl (.inl upd_same), rfl, _, _, rfl, _, _, rfl, rfl, hs D i _ T _ H' hD hu q1 q2 hlen e2 hT⟩
  · have e : i = us.length := by omega
    subst e
    rw [List.take_length] at q2
    exact .inl ⟨⟨_, SqL.of hpp, by simp⟩, k D H' hD q1 q2⟩
end
/-! ### list(range(a, b)) -/
def rgI (a b : Int) : List Int := (List.range (b - a).toNat).map fun i : Nat => a + (i : Int)
theorem rgV_int (a b : Int) : rgV a b = (rgI a b).map V.int := by
  unfold rgV rgI
  rw [List.map_map]; rfl
theorem rgI_len (a b : Int) : (rgI a b).length = (b - a).toNat := by
  unfold rgI
  rw [List.length_map, List.length_range]
theorem rgI_get {a b : Int} {i : Nat} (h : i < (b - a).toNat) : (rgI a b)[i]? = some (a + (i : Int)) := by
  unfold rgI
  rw [List.getElem?_map, List.getElem?_range h]; rfl
def aRgL : R2 := fun x y H Q => ∃ i j, x = .int i ∧ y = .int j ∧ RgOk i j ∧ ∀ q, H q = none → Q (.ref q) (upd H q (.lst (rgV i j)))
section
variable {σ : St} {H : Hp} {Q : VK} {ta tb : TE} {i j : Int} {p q : Addr} {us : List Int}
theorem s_listRg (k : ta σ H fun x H1 => tb σ H1 fun y H2 => aRgL x y H2 Q) : tLstRg (tRg2 ta tb) σ H Q := by
  refine ?_
  unfold tLstRg tRg2
  have e : ∀ (x y : V) (H2 : Hp), aRgL x y H2 Q = ∃ i j, x = .int i ∧ y = .int j ∧ RgOk i j ∧ ∀ q, H2 q = none → Q (.ref q) (upd H2 q (.lst (rgV i j))) := fun _ _ _ => rfl
  exact k
theorem w_rgL (h : RgOk i j) (k : ∀ q, H q = none → Q (.ref q) (upd H q (.lst ((rgI i j).map V.int)))) : aRgL (.int i) (.int j) H Q := ⟨i, j, rfl, rfl, h, fun q hq => by rw [rgV_int]; exact k q hq⟩
theorem w_addL1 (hp : H p = some (.lst [.int i])) (hq : H q = some (.lst (us.map V.int))) (hl : 1 + us.length ≤ sizeLine) (k : ∀ r, H r = none → Q (.ref r) (upd H r (.lst ((i :: us).map V.int)))) : aAdd (.ref p) (.ref q) H Q :=
  w_addLM (us := [i]) (vs := us) (f := V.int) hp hq hl k
theorem w_addR1 (hp : H p = some (.lst (us.map V.int))) (hq : H q = some (.lst [.int i])) (hl : us.length + 1 ≤ sizeLine) (k : ∀ r, H r = none → Q (.ref r) (upd H r (.lst ((us ++ [i]).map V.int)))) : aAdd (.ref p) (.ref q) H Q :=
  w_addLM (us := us) (vs := [i]) (f := V.int) hp hq hl k
end
theorem log2_small {i : Int} (h : -1000000000000 ≤ i ∧ i ≤ 1000000000000) : i.natAbs.log2 < 1920 := by
  have h1 : i.natAbs < 2 ^ 40 := by omega
  by_cases z : i.natAbs = 0
  · rw [z]; decide
  · have := (Nat.log2_lt z).mpr h1
    omega
end Lk
namespace Lk
open PySem PySem.Spec PyProof.Rows L2 TL

/-! ### words that are numbers -/
def strI (i : Int) : Str := Str.ofString (toString i)
def isNumW (z : Str) : Bool := (Txt.isascii z && Txt.isdigit z) && (decide (z = "0") || (!decide ((⟨#[z.cps.toList.getD 0 default]⟩ : Str) = "0") && decide ((z.length : Int) ≤ 9)))
def numV (z : Str) : Int := (intText? z).getD 0
theorem ascii_digit : ∀ c < 128, Unicode.isDigit c = true → 48 ≤ c ∧ c ≤ 57 := by decide +kernel
theorem digit_ascii : ∀ c < 58, 48 ≤ c → Unicode.isDigit c = true := by decide +kernel
theorem num_digits {z : Str} (h1 : Txt.isascii z = true) (h2 : Txt.isdigit z = true) : NumText.AllDigits (tl z) ∧ tl z ≠ [] := by
  unfold Txt.isascii at h1
  unfold Txt.isdigit at h2
  rw [Bool.and_eq_true] at h2
  obtain ⟨h2, h3⟩ := h2
  refine ⟨fun c hc => ?_, fun e => ?_⟩
  · have m : c ∈ z.cps := Array.mem_toList_iff.mp hc
    have a := (Array.all_eq_true_iff_forall_mem.mp h1) c m
    have b := (Array.all_eq_true_iff_forall_mem.mp h3) c m
    exact ascii_digit c (by simpa using a) b
  · have : z.length = 0 := by rw [len_tl, e]; rfl
    rw [this] at h2
    simp at h2
theorem isNumW_parts {z : Str} (h : isNumW z = true) : Txt.isascii z = true ∧ Txt.isdigit z = true ∧ z.length ≤ 9 := by
  unfold isNumW at h
  rw [Bool.and_eq_true, Bool.and_eq_true] at h
  obtain ⟨⟨h1, h2⟩, h3⟩ := h
  refine ⟨h1, h2, ?_⟩
  rw [Bool.or_eq_true] at h3
  rcases h3 with h3 | h3
  · have : z = "0" := by simpa using h3
    rw [this]; decide
  · rw [Bool.and_eq_true] at h3
    have := h3.2
    simp at this
    omega
theorem num_text {z : Str} (h : isNumW z = true) : intText? z = some (numV z) ∧ 0 ≤ numV z ∧ z.length ≤ 640 := by
  obtain ⟨h1, h2, h3⟩ := isNumW_parts h
  obtain ⟨d, ne⟩ := num_digits h1 h2
  have e := PySem.intText_digits (x := z) d ne (by omega)
  unfold numV
  rw [e]
  refine ⟨rfl, ?_, by omega⟩
  show 0 ≤ ((NumText.digitsVal z.cps.toList : Nat) : Int)
  omega
/-! ### splits are not long -/
theorem spl_len (S : List Nat) : ∀ (l : List Nat) (k : Nat) (acc : List Nat), (spl S k acc l).length ≤ l.length + 1
  | [], k, acc => by rw [spl_nil]; simp
  | c :: r, 0, acc => by
    have h1 := spl_len S r (S.length - 1) []
    have h2 := spl_len S r 0 (acc ++ [c])
    cases h : pre S (c :: r) with
    | true => rw [spl_hit h]; simp; omega
    | false => rw [spl_miss h]; simp; omega
  | c :: r, k + 1, acc => by
    have h1 := spl_len S r k acc
    show (spl S k acc r).length ≤ _
    simp; omega
theorem spl_part_len (S : List Nat) : ∀ (l : List Nat) (k : Nat) (acc : List Nat), ∀ p ∈ spl S k acc l, p.length ≤ acc.length + l.length
  | [], k, acc => by rw [spl_nil]; simp
  | c :: r, 0, acc => by
    intro p hp
    cases h : pre S (c :: r) with
    | true =>
      rw [spl_hit h] at hp
      rcases List.mem_cons.mp hp with z | z
      · rw [z]; simp
      · have := spl_part_len S r (S.length - 1) [] p z
        simp at this ⊢; omega
    | false =>
      rw [spl_miss h] at hp
      have := spl_part_len S r 0 (acc ++ [c]) p hp
      simp at this ⊢; omega
  | c :: r, k + 1, acc => by
    intro p hp
    have := spl_part_len S r k acc p hp
    simp at this ⊢; omega
theorem spl_ne (S : List Nat) : ∀ (l : List Nat) (k : Nat) (acc : List Nat), spl S k acc l ≠ []
  | [], k, acc => by rw [spl_nil]; simp
  | c :: r, 0, acc => by
    cases h : pre S (c :: r) with
    | true => rw [spl_hit h]; simp
    | false => rw [spl_miss h]; exact spl_ne S r 0 _
  | c :: r, k + 1, acc => spl_ne S r k acc
section
variable {z y : Str}
theorem split_len (hy : tl y ≠ []) (hk : y.cps.all (· < 256) = true) : (Txt.split z y).length ≤ z.length + 1 := by
  have e := split_spl z y hy (kind_ok hk)
  have := spl_len (tl y) (tl z) 0 []
  rw [← e, List.length_map] at this
  rw [len_tl]; exact this
theorem split_part_len (hy : tl y ≠ []) (hk : y.cps.all (· < 256) = true) : ∀ p ∈ Txt.split z y, p.length ≤ z.length := by
  intro p hp
  have e := split_spl z y hy (kind_ok hk)
  have := spl_part_len (tl y) (tl z) 0 [] (tl p) (by rw [← e]; exact List.mem_map_of_mem hp)
  rw [len_tl, len_tl]
  simpa using this
theorem split_ne (hy : tl y ≠ []) (hk : y.cps.all (· < 256) = true) : Txt.split z y ≠ [] := by
  intro h
  have e := split_spl z y hy (kind_ok hk)
  rw [h] at e
  exact spl_ne _ _ _ _ e.symm
end
theorem tl_sp : tl " " = [32] := by decide +kernel
theorem tl_bar : tl " | " = [32, 124, 32] := by decide +kernel
theorem k_sp : (" " : Str).cps.all (· < 256) = true := by decide +kernel
theorem k_bar : (" | " : Str).cps.all (· < 256) = true := by decide +kernel
/-- the numbers of a part, if it is one -/
def numsOf (z : Str) : Option (List Int) := if (Txt.split z " ").all isNumW = true then some ((Txt.split z " ").map numV) else none
theorem numsOf_len {z : Str} {us : List Int} (h : numsOf z = some us) : 1 ≤ us.length ∧ us.length ≤ z.length + 1 ∧ ∀ u ∈ us, 0 ≤ u := by
  unfold numsOf at h
  split at h
  · rename_i q
    cases h
    rw [List.length_map]
    refine ⟨?_, split_len (by rw [tl_sp]; simp) k_sp, fun u hu => ?_⟩
    · have := split_ne (z := z) (y := " ") (by rw [tl_sp]; simp) k_sp
      cases e : Txt.split z " " with
      | nil => exact absurd e this
      | cons a l => simp
    · obtain ⟨w, hw, rfl⟩ := List.mem_map.mp hu
      exact (num_text (List.all_eq_true.mp q w hw)).2.1
  · cases h
/-! ### texts of numbers -/
theorem tl_strI {i : Int} (h : 0 ≤ i) : tl (strI i) = numL i.toNat := by
  have e := tl_num i.toNat
  rw [show ((i.toNat : Nat) : Int) = i by omega] at e
  exact e
theorem strI_len {i : Int} (h : 0 ≤ i) (h2 : i < 1000000000) : (strI i).length ≤ 9 := by
  rw [len_tl, tl_strI h]
  exact numL_len (by decide) (by omega)
theorem numL_head : ∀ (m n : Nat), n ≤ m → 0 < n → ∃ c r, numL n = c :: r ∧ c ≠ 48 := by
  intro m
  induction m with
  | zero => intro n h1 h2; omega
  | succ m ih =>
    intro n h1 h2
    by_cases h : n < 10
    · exact ⟨48 + n, [], numL_lt h, by omega⟩
    · obtain ⟨c, r, e, hc⟩ := ih (n / 10) (by omega) (by omega)
      exact ⟨c, r ++ [48 + n % 10], by rw [numL_step (by omega), e]; rfl, hc⟩
theorem isNum_strI {i : Int} (h : 0 ≤ i) (h2 : i < 1000000000) : isNumW (strI i) = true := by
  have et := tl_strI h
  have hl := strI_len h h2
  have hd := numL_digits i.toNat
  unfold isNumW
  rw [Bool.and_eq_true, Bool.and_eq_true]
  have hmem : ∀ c ∈ (strI i).cps, 48 ≤ c ∧ c ≤ 57 := fun c hc => hd c (by rw [← et]; exact Array.mem_toList_iff.mpr hc)
  have hne : 0 < (strI i).length := by
    rw [len_tl, et]
    exact List.length_pos_iff.mpr (numL_ne _)
  refine ⟨⟨?_, ?_⟩, ?_⟩
  · unfold Txt.isascii
    rw [Array.all_eq_true_iff_forall_mem]
    intro c hc
    have := hmem c hc
    simp; omega
  · unfold Txt.isdigit
    rw [Bool.and_eq_true]
    refine ⟨by simpa using hne, ?_⟩
    rw [Array.all_eq_true_iff_forall_mem]
    intro c hc
    have := hmem c hc
    exact digit_ascii c (by omega) this.1
  · rw [Bool.or_eq_true]
    by_cases z : i = 0
    · left
      subst z
      decide +kernel
    · right
      rw [Bool.and_eq_true]
      obtain ⟨c, r, e, hc⟩ := numL_head i.toNat i.toNat (Nat.le_refl _) (by omega)
      refine ⟨?_, by simp; omega⟩
      have e2 : (strI i).cps.toList = c :: r := by
        show tl (strI i) = _
        rw [et, e]
      rw [e2]
      simp only [List.getD_cons_zero]
      rw [Bool.not_eq_true', decide_eq_false_iff_not]
      intro q
      have q2 := congrArg tl q
      have q3 : tl ("0" : Str) = [48] := by decide +kernel
      rw [q3] at q2
      have q4 : tl (⟨#[c]⟩ : Str) = [c] := rfl
      rw [q4] at q2
      injection q2 with q5
      exact hc q5
theorem numV_strI {i : Int} (h : 0 ≤ i) (h2 : i < 1000000000) : numV (strI i) = i := by
  have e := int_num (n := i.toNat) (Nat.le_trans (numL_len (k := 9) (by decide) (by omega)) (by decide))
  rw [show ((i.toNat : Nat) : Int) = i by omega] at e
  unfold numV strI
  rw [e]; rfl
theorem no_sign {i : Int} {s : Nat} (h : 0 ≤ i) (hs : s < 48 ∨ 57 < s) : s ∉ tl (strI i) := by
  rw [tl_strI h]
  exact numL_free hs
theorem split_nums {us : List Int} (hne : us ≠ []) (h : ∀ u ∈ us, 0 ≤ u) : Txt.split (Txt.join " " (us.map strI)) " " = us.map strI := by
  refine split_join (s := 32) (S := []) tl_sp k_sp (by simpa using hne) fun p hp => ?_
  obtain ⟨u, hu, rfl⟩ := List.mem_map.mp hp
  exact no_sign (h u hu) (by omega)
theorem numsOf_join {us : List Int} (hne : us ≠ []) (h : ∀ u ∈ us, 0 ≤ u ∧ u < 1000000000) : numsOf (Txt.join " " (us.map strI)) = some us := by
  unfold numsOf
  rw [split_nums hne (fun u hu => (h u hu).1)]
  have q : (us.map strI).all isNumW = true := by
    rw [List.all_eq_true]
    intro w hw
    obtain ⟨u, hu, rfl⟩ := List.mem_map.mp hw
    exact isNum_strI (h u hu).1 (h u hu).2
  rw [if_pos q, List.map_map]
  congr 1
  conv => rhs; rw [← List.map_id us]
  apply List.map_congr_left
  intro u hu
  exact numV_strI (h u hu).1 (h u hu).2
/-- a bar is in no text of numbers -/
theorem joinL_free {s : Nat} {S : List Nat} (hS : s ∉ S) : ∀ {ps : List (List Nat)}, (∀ p ∈ ps, s ∉ p) → s ∉ joinL S ps
  | [], _ => List.not_mem_nil
  | [p], h => h p (List.mem_singleton.mpr rfl)
  | p :: q :: r, h => by
    show s ∉ p ++ (S ++ joinL S (q :: r))
    intro z
    rcases List.mem_append.mp z with z | z
    · exact h p List.mem_cons_self z
    · rcases List.mem_append.mp z with z | z
      · exact hS z
      · exact joinL_free hS (fun x hx => h x (List.mem_cons_of_mem _ hx)) z
theorem no_bar {us : List Int} (h : ∀ u ∈ us, 0 ≤ u) : 124 ∉ tl (Txt.join " " (us.map strI)) := by
  rw [join_eq, tl_join, tl_sp]
  refine joinL_free (by decide) fun p hp => ?_
  obtain ⟨w, hw, rfl⟩ := List.mem_map.mp hp
  obtain ⟨u, hu, rfl⟩ := List.mem_map.mp hw
  exact no_sign (h u hu) (by omega)
theorem pre_bar {p q : List Nat} (h : 124 ∉ p) (hq : ∀ c, q[0]? = some c → c ≠ 124) : ∀ i, i < p.length → pre [32, 124, 32] ((p ++ q).drop i) = false := by
  intro i hi
  cases e : pre [32, 124, 32] ((p ++ q).drop i) with
  | false => rfl
  | true =>
    exfalso
    unfold pre at e
    have e2 : ((p ++ q).drop i).take 3 = [32, 124, 32] := by simpa using e
    have e3 : ((p ++ q).drop i)[1]? = some 124 := by
      have : (((p ++ q).drop i).take 3)[1]? = some 124 := by rw [e2]; rfl
      rw [List.getElem?_take_of_lt (by omega)] at this
      exact this
    rw [List.getElem?_drop] at e3
    by_cases z : i + 1 < p.length
    · rw [List.getElem?_append_left z] at e3
      exact h (List.mem_of_getElem? e3)
    · rw [List.getElem?_append_right (by omega), show i + 1 - p.length = 0 by omega] at e3
      exact hq 124 e3 rfl
theorem spl_bar {p rest acc : List Nat} (h : 124 ∉ p) : spl [32, 124, 32] 0 acc (p ++ ([32, 124, 32] ++ rest)) = (acc ++ p) :: spl [32, 124, 32] 0 [] rest :=
  spl_part (by simp) (pre_bar h (fun c e => by simp at e; omega))
theorem spl_bar_last {p acc : List Nat} (h : 124 ∉ p) : spl [32, 124, 32] 0 acc p = [acc ++ p] := spl_last fun i hi => by
  have := pre_bar (q := []) h (fun c e => by simp at e) i hi
  rwa [List.append_nil] at this
theorem split_three {a b c : Str} (ha : 124 ∉ tl a) (hb : 124 ∉ tl b) (hc : 124 ∉ tl c) : Txt.split (a ++ " | " ++ b ++ " | " ++ c) " | " = [a, b, c] := by
  refine map_tl_inj ?_
  rw [split_spl _ _ (by rw [tl_bar]; simp) (kind_ok k_bar), tl_append, tl_append, tl_append, tl_append, tl_bar]
  rw [List.append_assoc, List.append_assoc, List.append_assoc, spl_bar ha, spl_bar hb, spl_bar_last hc]
  rfl
theorem join_three (a b c : Str) : Txt.join " | " [a, b, c] = a ++ " | " ++ b ++ " | " ++ c := by
  refine ext_tl ?_
  rw [join_eq, tl_join, tl_append, tl_append, tl_append, tl_append]
  show tl a ++ (tl " | " ++ (tl b ++ (tl " | " ++ tl c))) = _
  simp only [List.append_assoc]
theorem sum_len {ys : List Str} {c : Nat} (h : ∀ y ∈ ys, y.length ≤ c) : (ys.map (·.length)).sum ≤ ys.length * c := by
  induction ys with
  | nil => simp
  | cons y ys ih =>
    have h1 := h y List.mem_cons_self
    have h2 := ih (fun z hz => h z (List.mem_cons_of_mem _ hz))
    rw [List.map_cons, List.sum_cons, List.length_cons, Nat.succ_mul]
    omega
theorem joinL_len (S : List Nat) : ∀ ps : List (List Nat), (joinL S ps).length ≤ (ps.map (·.length)).sum + ps.length * S.length
  | [] => by simp [joinL]
  | [p] => by simp [joinL]
  | p :: q :: r => by
    have := joinL_len S (q :: r)
    show (p ++ (S ++ joinL S (q :: r))).length ≤ _
    simp only [List.length_append, List.map_cons, List.sum_cons, List.length_cons] at this ⊢
    rw [Nat.succ_mul]
    omega
theorem join_len {ys : List Str} {c : Nat} (h : ∀ y ∈ ys, y.length ≤ c) : (Txt.join " " ys).length ≤ ys.length * (c + 1) := by
  rw [len_tl, join_eq, tl_join, tl_sp]
  have h1 := joinL_len [32] (ys.map tl)
  have h2 := sum_len h
  have e : ((ys.map tl).map (·.length)) = ys.map (·.length) := by
    rw [List.map_map]
    apply List.map_congr_left
    intro y _
    show (tl y).length = y.length
    rw [len_tl]
  rw [e, List.length_map] at h1
  rw [Nat.mul_add]
  simp at h1 ⊢
  omega
theorem nums_len {us : List Int} (h : ∀ u ∈ us, 0 ≤ u ∧ u < 1000000000) : (Txt.join " " (us.map strI)).length ≤ us.length * 10 ∧ ((us.map strI).map (·.length)).sum ≤ us.length * 9 := by
  have q : ∀ y ∈ us.map strI, y.length ≤ 9 := by
    intro y hy
    obtain ⟨u, hu, rfl⟩ := List.mem_map.mp hy
    exact strI_len (h u hu).1 (h u hu).2
  have h1 := join_len q
  have h2 := sum_len q
  rw [List.length_map] at h1 h2
  exact ⟨h1, h2⟩
theorem len_app (a b : Str) : (a ++ b).length = a.length + b.length := by
  rw [len_tl, tl_append, List.length_append, ← len_tl, ← len_tl]
/-! ### lists of tuples -/
/-- xs holds, one by one, tuples of the rows vss -/
inductive Tps (H : Hp) : List V → List (List V) → Prop
  | nil : Tps H [] []
  | cons {r xs vs vss} : H r = some (.tup vs) → Tps H xs vss → Tps H (.ref r :: xs) (vs :: vss)
theorem Tps.kp {H H' : Hp} {xs : List V} {ps : List (List V)} (h : Tps H xs ps) (k : ∀ a o, (∃ vs, o = HO.tup vs) → H a = some o → H' a = some o) : Tps H' xs ps := by
  induction h with
  | nil => exact .nil
  | cons h1 _ ih => exact .cons (k _ _ ⟨_, rfl⟩ h1) ih
theorem Tps.len {H : Hp} {xs : List V} {ps : List (List V)} (h : Tps H xs ps) : xs.length = ps.length := by
  induction h with
  | nil => rfl
  | cons _ _ ih => simp [ih]
theorem Tps.snoc {H : Hp} {xs : List V} {ps : List (List V)} {r : Addr} {vs : List V} (h : Tps H xs ps) (e : H r = some (.tup vs)) : Tps H (xs ++ [.ref r]) (ps ++ [vs]) := by
  induction h with
  | nil => exact .cons e .nil
  | cons h1 _ ih => exact .cons h1 ih
theorem Tps.get {H : Hp} {xs : List V} {ps : List (List V)} (h : Tps H xs ps) : ∀ {k : Nat} {p : List V}, ps[k]? = some p → ∃ r, xs[k]? = some (.ref r) ∧ H r = some (.tup p) := by
  induction h with
  | nil => intro k p e; simp at e
  | cons h1 _ ih =>
    intro k p e
    cases k with
    | zero => simp at e; subst e; exact ⟨_, rfl, h1⟩
    | succ k => simpa using ih (by simpa using e)
theorem Tps.getX {H : Hp} {xs : List V} {ps : List (List V)} (h : Tps H xs ps) {k : Nat} {x : V} (e : xs[k]? = some x) : ∃ r p, x = .ref r ∧ ps[k]? = some p ∧ H r = some (.tup p) := by
  have hl : k < ps.length := by rw [← h.len]; exact (List.getElem?_eq_some_iff.mp e).1
  obtain ⟨r, h1, h2⟩ := h.get (List.getElem?_eq_getElem hl)
  rw [e] at h1
  cases h1
  exact ⟨r, _, rfl, List.getElem?_eq_getElem hl, h2⟩
theorem Tps.new {H : Hp} {xs : List V} {ps : List (List V)} {p : Addr} {o : HO} (h : Tps H xs ps) (hp : H p = none) : Tps (upd H p o) xs ps := h.kp fun a u _ e => by rw [upd_ne (ne_of_none e hp)]; exact e
/-- a list is changed -/
theorem Tps.mut {H : Hp} {xs ys : List V} {ps : List (List V)} {p : Addr} {o : HO} (h : Tps H xs ps) (hp : H p = some (.lst ys)) : Tps (upd H p o) xs ps := h.kp fun a u z e => by
  obtain ⟨vs, rfl⟩ := z
  rw [upd_ne (ne_of e hp (by intro q; cases q))]; exact e
theorem Tps.kp0 {H H' : Hp} {xs : List V} {ps : List (List V)} (h : Tps H xs ps) (k : Kp [] H H') : Tps H' xs ps := h.kp fun a o _ e => k a o e List.not_mem_nil
/-- lists, at most, are changed -/
theorem Tps.kpm {ms : List Addr} {H H' : Hp} {xs : List V} {ps : List (List V)} (h : Tps H xs ps) (k : Kp ms H H') (hm : ∀ m ∈ ms, ∃ ys, H m = some (.lst ys)) : Tps H' xs ps := h.kp fun a o z e => k a o e fun hz => by
  obtain ⟨vs, rfl⟩ := z
  obtain ⟨ys, e2⟩ := hm a hz
  rw [e] at e2; cases e2
/-! ### equal tuples -/
/-- flat rows as data -/
def datV : V → PyData
  | .int i => .int i
  | .str x => .str x
  | .bl b => .bool b
  | _ => .none
def flatRow (vs : List V) : Bool := vs.all fun v => match v with
  | .int _ => true
  | .str _ => true
  | .bl _ => true
  | .non => true
  | _ => false
theorem dpRow {K : PySem.W.Frag} {H : Hp} : ∀ {vs : List V}, flatRow vs = true → DpAll K H vs (vs.map datV)
  | [], _ => .nil
  | v :: vs, h => by
    unfold flatRow at h
    rw [List.all_cons, Bool.and_eq_true] at h
    refine .cons ?_ (dpRow h.2)
    cases v with
    | int i => exact .int i
    | str x => exact .str x
    | bl b => exact .bl b
    | non => exact .non
    | byt b => exact absurd h.1 Bool.false_ne_true
    | flt b => exact absurd h.1 Bool.false_ne_true
    | ref a => exact absurd h.1 Bool.false_ne_true
    | ty n => exact absurd h.1 Bool.false_ne_true
theorem eqRow : ∀ vs : List V, PyData.eqvAll (vs.map datV) (vs.map datV) = true
  | [] => rfl
  | v :: vs => by
    rw [List.map_cons, PyData.eqvAll, eqRow vs, Bool.and_true]
    cases v <;> simp [datV, PyData.eqv]
theorem sh_row {ds : List PyData} (h : ds.all (fun d => d.canLay0 && decide (d.depth ≤ 1)) = true) : SeqAt.shaped (.tuple ds) = true := by
  have a : ∀ ds : List PyData, ds.all (fun d => d.canLay0 && decide (d.depth ≤ 1)) = true → PyData.canLayAll0 ds = true ∧ PyData.depthAll ds ≤ 1 := by
    intro ds
    induction ds with
    | nil => intro _; exact ⟨by simp [PyData.canLayAll0], by simp [PyData.depthAll]⟩
    | cons d ds ih =>
      intro h
      simp only [List.all_cons, Bool.and_eq_true, decide_eq_true_eq] at h
      have := ih (by simpa using h.2)
      refine ⟨by simp [PyData.canLayAll0, h.1.1, this.1], by simp [PyData.depthAll]; omega⟩
  have := a ds h
  unfold SeqAt.shaped
  simp [PyData.canLay0, PyData.depth, this.1]
  omega
def okV : V → Bool
  | .int _ => true
  | .str x => PyData.strOk x
  | .bl _ => true
  | .non => true
  | _ => false
theorem shaped_row {vs : List V} (h : vs.all okV = true) : SeqAt.shaped (.tuple (vs.map datV)) = true := by
  refine sh_row ?_
  rw [List.all_map]
  rw [List.all_eq_true] at h ⊢
  intro v hv
  have := h v hv
  cases v <;> simp_all [okV, datV, PyData.canLay0, PyData.depth]
theorem flat_row {vs : List V} (h : vs.all okV = true) : flatRow vs = true := by
  unfold flatRow
  rw [List.all_eq_true] at h ⊢
  intro v hv
  have := h v hv
  cases v <;> simp_all [okV]
section
variable {K : PySem.W.Frag} {H : Hp} {Q : VK} {p q : Addr} {vs : List V}
theorem w_neT (hp : H p = some (.tup vs)) (hq : H q = some (.tup vs)) (hf : flatRow vs = true) (hs : SeqAt.shaped (.tuple (vs.map datV)) = true) (k : Q (.bl false) H) : aNe K (.ref p) (.ref q) H Q :=
  .inr ⟨_, _, .tup (.inl (.inl hp)) (dpRow hf), .tup (.inl (.inl hq)) (dpRow hf), hs, hs, by rw [PyData.eqv, eqRow]; exact k⟩
theorem w_eqT (hp : H p = some (.tup vs)) (hq : H q = some (.tup vs)) (hf : flatRow vs = true) (hs : SeqAt.shaped (.tuple (vs.map datV)) = true) (k : Q (.bl true) H) : aEq K (.ref p) (.ref q) H Q :=
  .inr ⟨_, _, .tup (.inl (.inl hp)) (dpRow hf), .tup (.inl (.inl hq)) (dpRow hf), hs, hs, by rw [PyData.eqv, eqRow]; exact k⟩
end
/-! ### from the end -/
theorem atI_neg {α : Type} {xs : List α} {i : Int} {v : α} (hi : i < 0) (hl : -i ≤ (xs.length : Int)) (h : xs[((xs.length : Int) + i).toNat]? = some v) : atI xs i = some v := by
  unfold atI ixN
  rw [if_neg (by omega), if_pos (by omega), show i + (xs.length : Int) = (xs.length : Int) + i by omega]
  exact h
theorem w_ixNeg {α : Type} [Inhabited α] {f : α → V} {us : List α} {K : PySem.W.Frag} {H : Hp} {Q : VK} {p : Addr} {i : Int} (hp : H p = some (.lst (us.map f))) (hi : i < 0) (hl : -i ≤ (us.length : Int)) (k : Q (f (us.getD ((us.length : Int) + i).toNat default)) H) : rIx K (.ref p) (.int i) H Q :=
  .inl ⟨p, _, _, _, rfl, rfl, SqL.of hp, atI_neg hi (by simpa using hl) (by
    rw [List.length_map, List.getElem?_map, List.getD_eq_getElem?_getD, List.getElem?_eq_getElem (by omega)]; rfl), k⟩
/-! ### members: texts, truth values -/
section
variable {p : Addr} {H : Hp} {Q : VK} {K : PySem.W.Frag}
theorem eqV_str (a b : Str) : eqV (.str a) (.str b) = decide (a = b) := by
  have : eqV (.str a) (.str b) = (a == b) := rfl
  rw [this]
  by_cases z : a = b <;> simp [z]
theorem eqV_bl (a b : Bool) : eqV (.bl a) (.bl b) = decide (a = b) := by cases a <;> cases b <;> rfl
theorem inV_str {x : Str} : ∀ us : List Str, inV (.str x) (us.map V.str) = decide (x ∈ us)
  | [] => by simp [inV]
  | u :: us => by
    have h := inV_str (x := x) us
    unfold inV at h ⊢
    rw [List.map_cons, List.any_cons, h, eqV_str]
    by_cases z : u = x
    · simp [z]
    · have z2 : ¬ x = u := fun q => z q.symm
      simp [z, z2]
theorem inV_bl {x : Bool} : ∀ us : List Bool, inV (.bl x) (us.map V.bl) = decide (x ∈ us)
  | [] => by simp [inV]
  | u :: us => by
    have h := inV_bl (x := x) us
    unfold inV at h ⊢
    rw [List.map_cons, List.any_cons, h, eqV_bl]
    by_cases z : u = x
    · simp [z]
    · have z2 : ¬ x = u := fun q => z q.symm
      simp [z, z2]
theorem flat_str : ∀ us : List Str, (us.map V.str).all flatV = true
  | [] => rfl
  | u :: us => by rw [List.map_cons, List.all_cons, flat_str us]; rfl
theorem flat_bl : ∀ us : List Bool, (us.map V.bl).all flatV = true
  | [] => rfl
  | u :: us => by rw [List.map_cons, List.all_cons, flat_bl us]; rfl
theorem w_inS {x : Str} {us : List Str} (hp : H p = some (.lst (us.map V.str))) (k : Q (.bl (decide (x ∈ us))) H) : rIn K false (.str x) (.ref p) H Q :=
  ⟨p, _, rfl, .inl (SqL.of hp), rfl, flat_str us, by rw [inV_str]; exact k⟩
theorem w_notInS {x : Str} {us : List Str} (hp : H p = some (.lst (us.map V.str))) (k : Q (.bl (!decide (x ∈ us))) H) : rIn K true (.str x) (.ref p) H Q :=
  ⟨p, _, rfl, .inl (SqL.of hp), rfl, flat_str us, by rw [inV_str]; exact k⟩
theorem w_inB {x : Bool} {us : List Bool} (hp : H p = some (.lst (us.map V.bl))) (k : Q (.bl (decide (x ∈ us))) H) : rIn K false (.bl x) (.ref p) H Q :=
  ⟨p, _, rfl, .inl (SqL.of hp), rfl, flat_bl us, by rw [inV_bl]; exact k⟩
theorem w_notInB {x : Bool} {us : List Bool} (hp : H p = some (.lst (us.map V.bl))) (k : Q (.bl (!decide (x ∈ us))) H) : rIn K true (.bl x) (.ref p) H Q :=
  ⟨p, _, rfl, .inl (SqL.of hp), rfl, flat_bl us, by rw [inV_bl]; exact k⟩
end
end Lk
namespace Lk
open PySem PySem.Spec PyProof.Rows L2 TL

/-! ### is, of truth values -/
theorem vbl_beq (a b : Bool) : ((Value.bool a) == (Value.bool b)) = decide (a = b) := by
  by_cases e : a = b
  · subst e
    exact (beq_self_eq_true (Value.bool a)).trans (decide_eq_true (p := a = a) rfl).symm
  · exact (beq_eq_false_iff_ne.mpr fun z => e (Value.bool.inj z)).trans (decide_eq_false e).symm
section
variable {X : Cx}
theorem op_isBl : OpR X (compareOp .Is) (fun x y H Q => ∃ a b, x = .bl a ∧ y = .bl b ∧ Q (.bl (decide (a = b))) H) := by
  intro pins s σ H x y v u Q I rx ry h
  obtain ⟨a, b, rfl, rfl, q⟩ := h
  cases (show v = Value.bool a from rx)
  cases (show u = Value.bool b from ry)
  exact wpAny_is_plain rfl (fin_bl I q (vbl_beq a b).symm)
theorem op_notBl : OpR X (compareOp .IsNot) (fun x y H Q => ∃ a b, x = .bl a ∧ y = .bl b ∧ Q (.bl (!decide (a = b))) H) := by
  intro pins s σ H x y v u Q I rx ry h
  obtain ⟨a, b, rfl, rfl, q⟩ := h
  cases (show v = Value.bool a from rx)
  cases (show u = Value.bool b from ry)
  exact wpAny_isNot_plain rfl (fin_bl I q (congrArg not (vbl_beq a b).symm))
end
def aIsB : R2 := fun x y H Q => ∃ a b, x = .bl a ∧ y = .bl b ∧ Q (.bl (decide (a = b))) H
def aNotB : R2 := fun x y H Q => ∃ a b, x = .bl a ∧ y = .bl b ∧ Q (.bl (!decide (a = b))) H
theorem o_isB {X : Cx} : OpR X (compareOp .Is) aIsB := op_isBl
theorem o_notB {X : Cx} : OpR X (compareOp .IsNot) aNotB := op_notBl
theorem w_isB {a b : Bool} {H : Hp} {Q : VK} (k : Q (.bl (decide (a = b))) H) : aIsB (.bl a) (.bl b) H Q := ⟨a, b, rfl, rfl, k⟩
theorem w_notB {a b : Bool} {H : Hp} {Q : VK} (k : Q (.bl (!decide (a = b))) H) : aNotB (.bl a) (.bl b) H Q := ⟨a, b, rfl, rfl, k⟩
/-! ### tuple(list) -/
def rTupOf (K : PySem.W.Frag) : List V → Hp → VK → Prop := fun xs H Q => ∃ p ys, xs = [.ref p] ∧ ((SqL K H p ys ∧ ∀ l, H l = none → Q (.ref l) (upd H l (.tup ys))) ∨ (SqT K H p ys ∧ Q (.ref p) H))
theorem b_tuple {X : Cx} : CallR X (.type "tuple") (rTupOf X.K) := call_tuple_of
theorem w_tupOf {K : PySem.W.Frag} {H : Hp} {p : Addr} {ys : List V} {Q : VK} (hp : H p = some (.lst ys)) (k : ∀ l, H l = none → Q (.ref l) (upd H l (.tup ys))) : rTupOf K [.ref p] H Q := ⟨p, ys, rfl, .inl ⟨SqL.of hp, k⟩⟩
/-! ### isinstance(o, C) of an own class -/
def rIsC (C : Addr) : List V → Hp → VK → Prop := fun xs H Q => ∃ a dx fs, xs = [.ref a, .ref C] ∧ H a = some (.ins C dx fs) ∧ Q (.bl true) H
theorem b_isC {X : Cx} {C : Addr} (c : C8.InsC X.K C) : CallR X (.builtin "isinstance") (rIsC C) := C8.call_isC c
theorem w_isC {C a dx : Addr} {fs : List (Str × V)} {H : Hp} {Q : VK} (hp : H a = some (.ins C dx fs)) (k : Q (.bl true) H) : rIsC C [.ref a, .ref C] H Q := ⟨a, dx, fs, rfl, hp, k⟩
/-! ### values as data -/
section
variable {K : PySem.W.Frag} {H : Hp} {n m : Nat}
def DV (K : PySem.W.Frag) (H : Hp) (n : Nat) (v : V) (d : PyData) : Prop := Dp K H v d ∧ d.canLay0 = true ∧ d.depth ≤ n
def DvAll (K : PySem.W.Frag) (H : Hp) (n : Nat) (vs : List V) (ds : List PyData) : Prop := DpAll K H vs ds ∧ PyData.canLayAll0 ds = true ∧ PyData.depthAll ds ≤ n
theorem DV.int (i : Int) : DV K H n (.int i) (.int i) := ⟨.int i, by simp [PyData.canLay0], by simp [PyData.depth]⟩
theorem DV.bl (b : Bool) : DV K H n (.bl b) (.bool b) := ⟨.bl b, by simp [PyData.canLay0], by simp [PyData.depth]⟩
theorem DV.str {x : Str} (h : PyData.strOk x = true) : DV K H n (.str x) (.str x) := ⟨.str x, by simp [PyData.canLay0, h], by simp [PyData.depth]⟩
theorem DV.non : DV K H n .non .none := ⟨.non, by simp [PyData.canLay0], by simp [PyData.depth]⟩
theorem DvAll.nil : DvAll K H n [] [] := ⟨.nil, by simp [PyData.canLayAll0], by simp [PyData.depthAll]⟩
theorem DvAll.cons {v : V} {vs : List V} {d : PyData} {ds : List PyData} (h1 : DV K H n v d) (h2 : DvAll K H n vs ds) : DvAll K H n (v :: vs) (d :: ds) :=
  ⟨.cons h1.1 h2.1, by simp [PyData.canLayAll0, h1.2.1, h2.2.1], by have := h1.2.2; have := h2.2.2; simp [PyData.depthAll]; omega⟩
theorem DV.tup {p : Addr} {vs : List V} {ds : List PyData} (hp : H p = some (.tup vs)) (h : DvAll K H n vs ds) : DV K H (n + 1) (.ref p) (.tuple ds) :=
  ⟨.tup (.inl (.inl hp)) h.1, by simp [PyData.canLay0, h.2.1], by have := h.2.2; simp [PyData.depth]; omega⟩
theorem DV.lst {p : Addr} {vs : List V} {ds : List PyData} (hp : H p = some (.lst vs)) (h : DvAll K H n vs ds) : DV K H (n + 1) (.ref p) (.list ds) :=
  ⟨.lst (SqL.of hp) h.1, by simp [PyData.canLay0, h.2.1], by have := h.2.2; simp [PyData.depth]; omega⟩
theorem DvAll.row : ∀ {vs : List V}, vs.all okV = true → DvAll K H n vs (vs.map datV)
  | [], _ => .nil
  | v :: vs, h => by
    rw [List.all_cons, Bool.and_eq_true] at h
    refine .cons ?_ (DvAll.row h.2)
    cases v with
    | int i => exact .int i
    | str x => exact .str h.1
    | bl b => exact .bl b
    | non => exact .non
    | byt b => exact absurd h.1 Bool.false_ne_true
    | flt b => exact absurd h.1 Bool.false_ne_true
    | ref a => exact absurd h.1 Bool.false_ne_true
    | ty n => exact absurd h.1 Bool.false_ne_true
theorem DV.shaped {v : V} {d : PyData} (h : DV K H n v d) (hn : n ≤ 64) : SeqAt.shaped d = true := by
  unfold SeqAt.shaped
  rw [h.2.1, Bool.true_and]
  exact decide_eq_true (Nat.le_trans h.2.2 hn)
theorem w_eqV {x y : V} {d e : PyData} {Q : VK} (h1 : DV K H 10 x d) (h2 : DV K H 10 y e) (k : Q (.bl (PyData.eqv d e)) H) : aEq K x y H Q :=
  .inr ⟨d, e, h1.1, h2.1, h1.shaped (by decide), h2.shaped (by decide), k⟩
end
/-! ### a comprehension over a list whose turns make things -/
section
variable {σ : St} {H : Hp} {g : TG} {tt : TT} {te : TE} {K : PySem.W.Frag} {vs : List Nat} {Q : VK} {α : Type} {f : α → V}
theorem w_lcMG {us : List α} {p : Addr} (J : Addr → Nat → List V → Hp → Prop) (hp : H p = some (.lst (us.map f)))
    (h0 : ∀ D, H D = none → J D 0 [] (upd H D (.lst [])))
    (hs : ∀ (D : Addr) (i : Nat) (u : α) (acc : List V) (H' : Hp), H D = none → us[i]? = some u → acc.length ≤ i → Kp [] H H' → H' D = some (.lst acc) → J D i acc H' → g (f u) (wipe σ vs) H' fun σ2 H2 => wipe σ2 vs = wipe σ vs ∧ tt σ2 H2 fun b H3 =>
      if b = true then te σ2 H3 (gKeep [] H D (J D) (i + 1)) else gNx [] H D (J D) (i + 1) H3)
    (k : ∀ D acc H', H D = none → acc.length ≤ us.length → Kp [] H H' → H' D = some (.lst acc) → J D us.length acc H' → Q (.ref D) H') : aCList K g tt te vs σ Q (.ref p) H :=
  ⟨p, rfl, ⟨_, SqL.of hp⟩, fun D hD => lc_list (K := K) (a := p) (xs := us.map f) (fun i => gNx [] H D (J D) i) ⟨[], Nat.zero_le _, Kp.refl.new hD, upd_same, h0 D hD⟩
    (fun i H' hi q => by
      obtain ⟨acc, _, q2, _⟩ := q
      exact SqL.of (q2.at0 hp)) (fun i x H' hx q => by
      rw [List.getElem?_map] at hx
      cases e : us[i]? with
      | none => rw [e] at hx; cases hx
      | some u =>
        rw [e] at hx
        cases hx
        obtain ⟨acc, q1, q2, q3, q4⟩ := q
        exact hs D i u acc H' hD e q1 q2 q3 q4) (fun H' q => by
      obtain ⟨acc, q1, q2, q3, q4⟩ := q
      rw [List.length_map] at q1 q4
      exact k D acc H' hD q1 q2 q3 q4)⟩
end
/-! ### unlike data -/
theorem eqvAll_len : ∀ {ds es : List PyData}, ds.length ≠ es.length → PyData.eqvAll ds es = false
  | [], [], h => absurd rfl h
  | [], e :: es, _ => by simp [PyData.eqvAll]
  | d :: ds, [], _ => by simp [PyData.eqvAll]
  | d :: ds, e :: es, h => by
    have := eqvAll_len (ds := ds) (es := es) (by simpa using h)
    simp [PyData.eqvAll, this]
theorem strI_ok {i : Int} (h : -1 ≤ i) : PyData.strOk (strI i) = true := by
  by_cases z : i = -1
  · subst z; decide +kernel
  · have hd := numL_digits i.toNat
    unfold PyData.strOk
    rw [Array.all_eq_true_iff_forall_mem]
    intro c hc
    have := hd c (by rw [← tl_strI (show 0 ≤ i by omega)]; exact Array.mem_toList_iff.mpr hc)
    simp; omega
/-! ### sums, all -/
section
variable {K : PySem.W.Frag} {H : Hp} {Q : VK} {p : Addr}
theorem w_sum {ns : List Int} (hp : H p = some (.lst (ns.map V.int))) (k : Q (.int ns.sum) H) : rSum K [.ref p] H Q := ⟨p, ns, rfl, SqL.of hp, k⟩
theorem w_all {bs : List Bool} (hp : H p = some (.lst (bs.map V.bl))) (k : Q (.bl (bs.all id)) H) : rAll K [.ref p] H Q := ⟨p, bs, rfl, SqL.of hp, k⟩
end
theorem w_inIT {i : Int} {us : List Int} {p : Addr} {H : Hp} {Q : VK} {K : PySem.W.Frag} (hp : H p = some (.tup (us.map V.int))) (k : Q (.bl (decide (i ∈ us))) H) : rIn K false (.int i) (.ref p) H Q :=
  ⟨p, _, rfl, .inr (.inl (.inl hp)), rfl, flat_int us, by rw [inV_int]; exact k⟩
end Lk
namespace Lk
open PySem PySem.Spec PyProof.Rows L2

/-! ### methods and comprehensions while an exception is handled -/
section
variable {X : Cx} {k : Nat} {f C : Addr} {ps : List Str} {sp : Sp} {m : Str} {pos apos : Pos} {e o : Expr} {es : List Expr} {ta : TE} {t : TA}
theorem pe_methHS {pl : Sem Bool} (G : FnHA X.prog X.w X.K X.mg X.base k f ps sp) (hr : L2H.RoomH k X.A) (hc : L2H.HotC X) (c : Cls X.K C) (hm : Meth X.K C m f) (he : PE X o ta) (ha : PA X (e :: es) t)
    (hst : starEach (e :: es) X.env = (false, eval e X.env) :: starEach es X.env := by rfl) (hpl : (backTo pos (starEach es X.env)).any (·.1) = false := by rfl) (ht : MTree X pl o m (e :: es) pos apos := by rfl) :
    PE X (.Call (.Attribute o m apos) (e :: es) [] pos) (tMethS X.K C m sp (fun _ => E0) ta t) := by
  obtain ⟨fd, F, b⟩ := G
  exact L2H.pe_methH (pl := pl) he c hm F hr hc b (fun σ => L2N.passAt takes0 σ) ha hst hpl ht
theorem pe_methHS0 {pl : Sem Bool} (G : FnHA X.prog X.w X.K X.mg X.base k f ps sp) (hr : L2H.RoomH k X.A) (hc : L2H.HotC X) (c : Cls X.K C) (hm : Meth X.K C m f) (he : PE X o ta) (ht : MTree X pl o m [] pos apos := by rfl) :
    PE X (.Call (.Attribute o m apos) [] [] pos) (tMethS X.K C m sp (fun _ => E0) ta tNil) := by
  obtain ⟨fd, F, b⟩ := G
  refine ⟨fun pins s σ H Q I h => ?_⟩
  refine PySem.W.methodCall_KW (pl := pl) (thn (he.run pins s σ H _ I h) fun u s1 ⟨x, H1, I1, rx, a, dx, fs, ex, ea, l, q⟩ => ?_) ht
  subst ex
  obtain rfl : u = Value.ref a := rx
  refine getmeth_ok I1 ea c hm l ?_
  exact PySem.W.callWith_K0 (first := [.ref a]) I1.kIn hm.kp (L2H.run_fnH (E := fun _ => E0) (us := [.ref a]) (vs := [.ref a]) F hr hc b (L2N.passAt takes0 σ) I1 (.cons rfl .nil) q)
end
/-- a list's iterator comes to its end, the handled exception standing aside -/
theorem list_stop {prog : Program} {w : World} {A : Around} {E : Value → Shared → Prop} {s : Shared} {it l x1 : Addr} {i : Nat} {items : Array Value} {Q : Option Value → Shared → Prop} (hot : HotX.HotAt A x1 s.heap) (hne : x1 ≠ it) (hit : s.heap.IsListIter it l i) (hl : s.heap.IsList l items) (hx : items[i]? = none)
    (hQ : ∀ h', (∀ b o, b ≠ it → s.heap.get? b = some o → h'.get? b = some o) → Q none { s with heap := h' }) : wpAny (model prog w) A (pyNext (.ref it)) Q E s := by
  obtain ⟨oi, hoi, hci, hdi⟩ := id hit
  obtain ⟨ol, hol, _, nl, hdl⟩ := hl
  obtain ⟨hh, o1, vs1, h1, d1, c1⟩ := hot
  unfold pyNext
  refine wpAny_bind (wpAny_attempt (wpAny_callSpecial?_slot (name := Str.ofString "__next__") hit.typeIs slot_listiter_next
    (wpAny_call_entry slot_listiter_next hit.typeIs entry_listiter_next ?_ (args_listiter_next _))))
  show wpAny _ _ (field (.ref it) 0 >>= _) _ _ s
  refine wpAny_bind (wpAny_field hoi hdi (x := .ref l) rfl ?_)
  show wpAny _ _ (if (Value.ref l == Value.none) = true then _ else _) _ _ s
  rw [if_neg (show ¬ ((Value.ref l == Value.none) = true) from Bool.false_ne_true)]
  show wpAny _ _ (field (.ref it) 1 >>= _) _ _ s
  refine wpAny_bind (wpAny_field hoi hdi (x := .int i 0) rfl ?_)
  show wpAny _ _ (seqItems? (.ref l) >>= _) _ _ s
  refine wpAny_bind (wpAny_seqItems hol hdl ?_)
  simp only [Int.toNat_natCast, hx]
  refine wpAny_bind (wpAny_rule (wpAny_bind (wpAny_setField hoi hdi (by simp) ?_)))
  show wpAny _ _ (newExc (.type "StopIteration") [] >>= _) _ _ _
  refine wpAny_bind ?_
  simp only [newExc, newTuple]
  refine wpAny_bind (wpAny_newObj_type ?_ (by size_fits))
  refine wpAny_bind (m := firstArgMember _ _) (wpAny_of_eq (a := Value.none) (by first | rfl | (simp only [firstArgMember]; rfl)) ?_)
  refine wpAny_newObj_type ?_ (by size_fits)
  have q1 := (Heap.get?_update_other s.heap (Obj.mapFields (·.setIfInBounds 0 .none)) (Ne.symm hne)).trans h1
  refine HotX.raiseNew_hot ⟨hh, o1, vs1, Heap.get?_push_of_some _ (Heap.get?_push_of_some _ q1), d1, c1⟩ (Nat.ne_of_lt (Heap.lt_size (Heap.get?_push_of_some _ q1))) (Heap.get?_push_size _ rfl) rfl (by first | (simp; done) | (simp; omega) | (simp only [Array.size_append]; simp; omega)) ?_
  refine wpAny_bind (wpAny_isInstance (T := "StopIteration") (b := true) ⟨_, Heap.get?_update_self _ (Heap.get?_push_size _ rfl) rfl, rfl⟩ isSubtype_stop ?_)
  refine wpAny_pure (hQ _ fun b u hb e => ?_)
  have q2 := (Heap.get?_update_other s.heap (Obj.mapFields (·.setIfInBounds 0 .none)) (Ne.symm hb)).trans e
  rw [Heap.get?_update_other _ _ (Nat.ne_of_gt (Heap.lt_size (Heap.get?_push_of_some _ q2)))]
  exact Heap.get?_push_of_some _ (Heap.get?_push_of_some _ q2)
open L2H in
theorem turn_listH {P : Program} {w : World} {K : PySem.W.Frag} {tg : Expr} (a it : Addr) : TurnH P w K tg (Itl K a) [it] it (fun i h => h.IsListIter it a i) := by
  have T : Turn P w K tg (Itl K a) [it] it (fun i h => h.IsListIter it a i) := turn_list a it
  refine ⟨T.mem, T.obj, T.keep, ?_, ?_, T.self⟩
  · intro X hP hw hK hc i pins s σ H E I hf st hg
    subst hP hw hK
    obtain ⟨xs, x, hq, hx⟩ := hg
    obtain ⟨its, rv, p, hz⟩ := I.list hq
    obtain ⟨u, hu, ru⟩ := rv.get hx
    obtain ⟨f0, f1, f2, f3, f4, f5⟩ := hf it (by simp)
    refine wpAny_pyNext_list_item st p.isList (x := u) (by simpa using hu) fun h' st' sb => ⟨u, rfl, ?_⟩
    have I1 := I.turned (t' := s.toks) (fun b o hb e => (sb.2 b hb).trans e) f0 f1 f3 f4 f5
    obtain ⟨oi, e, c, d⟩ := id st'
    exact go_of (s := { s with heap := h' }) e c d (by decide) ⟨x, H, I1, ru, ⟨rfl, fun ys hy => by rw [I.list_inj hy hq]; exact hx⟩, st', fun b hb => (hf b hb).1⟩
  · intro X hP hw hK hc i pins s σ H E I hf st hg
    subst hP hw hK
    obtain ⟨xs, hq, hx⟩ := hg
    obtain ⟨its, rv, p, hz⟩ := I.list hq
    have hl := rv.length
    obtain ⟨f0, f1, f2, f3, f4, f5⟩ := hf it (by simp)
    obtain ⟨x1, ⟨hh, v1, e1, c1⟩, hp⟩ := hc
    have hp := List.mem_append_left pins hp
    exact list_stop ⟨hh, x1.2, v1, (I.pin x1 hp).1, e1, c1⟩ (f5 x1 hp) st p.isList (by simp; omega) fun h' eb => ⟨rfl, I.turned (t' := s.toks) eb f0 f1 f3 f4 f5⟩
section
variable {X : Cx} {tg : Expr}
theorem pi_listH {l : Expr} {tl : TE} (hl : PE X l tl) : L2H.PIH X tg l (iList X.K tl) := by
  refine ⟨fun pins s σ H R I h => thn (hl.run pins s σ H _ I h) fun v s1 ⟨x, H1, I1, r1, a, e, ⟨xs, hq⟩, q⟩ => ?_⟩
  subst e
  cases r1
  obtain ⟨its, rv, p, hz⟩ := I1.list hq
  refine wpAny_pyIter_list p.isList ⟨s1.heap.objs.size, [s1.heap.objs.size], _, _, H1, rfl, I1.kept (t' := s1.toks) fun b o e => Heap.get?_push_of_some _ e, turn_listH a _, ⟨_, Heap.get?_push_size _ rfl, rfl, rfl⟩, fun b hb => ?_, q⟩
  rw [List.mem_singleton.mp hb]
  exact I1.fpOk (Nat.le_refl _) (I1.hok.fresh (Nat.le_refl _))
theorem pi_range2H {a b : Expr} {ta : TA} {p pos : Pos} (hg : Gl X "range") (hm : X.mg "range" = none) (ha : PA X [a, b] ta) (hs : starEach [a, b] X.env = [(false, eval a X.env), (false, eval b X.env)] := by rfl) (hs2 : starEach [b] X.env = [(false, eval b X.env)] := by rfl) :
    L2H.PIH X tg (.Call (.Name "range" p) [a, b] [] pos) (iRng2 ta) := by
  refine ⟨fun pins s σ H R I h => ?_⟩
  refine Call_ (ld_blt I hg hm boot_range (PyProof.Rows.callWith_type1 (thn (ha.run pos pins s σ H _ I h) fun us s1 ⟨vs, H1, I1, r1, q1⟩ => ?_) (by rw [hs, hs2]) (by rw [hs2]; rfl)))
  obtain ⟨i, j, e, ⟨q1, q2, q3, q4⟩, q⟩ := q1
  subst e
  cases r1 with
  | cons r rr =>
    cases rr with
    | cons r' rr =>
      cases rr
      obtain ⟨t, rfl⟩ := r
      obtain ⟨t', rfl⟩ := r'
      exact call_range_2 (L2H.range_itH I1 q1 q2 q3 q4 q)
end
/-- the block of a comprehension that keeps the pins of the def -/
abbrev blkH (X : Cx) (s : Shared) (H : Hp) (scope : Scope) (cenv : Env) (fp : List Addr) : Cx := { X.blk s H scope cenv fp with pn := X.pn }
abbrev newC (s : Shared) (scope : Scope) (env : Env) : Env := compEnvC scope (cellsFrom (s.heap.objs.size + 1) scope.names (cloFrom env.cells scope.names [])) s.heap.objs.size env
theorem blkH_start {X : Cx} {pins : List (Addr × Obj)} {σ : St} {H : Hp} {s : Shared} {scope : Scope} {own : List (Str × Nat)} {fp : List Addr} (I : Inv X pins σ H s) (ok : BlkOk X.N X.env.scope scope own) (hN : X.N.Nodup) (hfp : ∀ b ∈ fp, FpOk X pins H b ∧ b < s.heap.objs.size) :
    Inv (blkH X s H scope (newC s scope X.env) fp) [] (wipe σ (own.map (·.2))) H { s with heap := pushCells (s.heap.push { cls := .type "dict", data := .dict #[] }) scope.names } := by
  have J := block_start I ok hN hfp
  have O := J.ok
  refine ⟨⟨O.mod, O.kind, O.glob, O.blt, O.above, O.inj, O.has, O.cab, O.hd, O.frames, O.stk, O.exf, O.bs, O.bsz, O.noex, O.exfs, O.funs, O.frf⟩, J.os, J.bare, J.base, J.loc, J.cell, J.free, J.freeC, fun p hp => ?_, J.hok, J.len⟩
  have hp : p ∈ X.pn := by simpa using hp
  obtain ⟨p1, p2, p3, p4, p5⟩ := I.pin p (List.mem_append_left _ hp)
  refine ⟨pushCells_keeps _ _ _ _ (Heap.get?_push_of_some _ p1), p2, Nat.ne_of_lt (Heap.lt_size p1), fun z => ?_, p5⟩
  rcases List.mem_cons.mp (I.stkSub p.1 z) with y | y
  · exact p3 y
  · exact p4 y
/-- the block's context still bears the handled exception -/
theorem hotBlk {X : Cx} {s : Shared} {H : Hp} {scope : Scope} {cenv : Env} {fp : List Addr} (hc : L2H.HotC X) : L2H.HotC (blkH X s H scope cenv fp) := hc
section
variable {X : Cx} {elt tg iter : Expr} {ifs : List Expr} {scope : Scope} {own : List (Str × Nat)} {pos pos' : Pos} {wi : TI} {g : TG} {tt : TT} {te : TE}
/-- the turns of the block's loop -/
theorem lcH_loop {s : Shared} {σ : St} {H : Hp} {Q : VK} {R : Result → Shared → Prop} {fp : List Addr} {it D : Addr} {tn : Nat → Heap → Prop} {J : It} {cenv : Env} {s' : Shared} (hc : L2H.HotC X)
    (T : L2H.TurnH X.prog X.w X.K tg J fp it tn) (I0 : Inv (blkH X s H scope cenv fp) [] (wipe σ (own.map (·.2))) H s') (st0 : tn 0 s'.heap) (free0 : ∀ b ∈ fp, H b = none)
    (pg : PG (blkH X s H scope cenv fp) tg g) (pt : PTs (blkH X s H scope cenv fp) ifs tt) (pe : PE (blkH X s H scope cenv fp) elt te) (far : ∀ b ∈ fp, ∀ p ∈ X.pn, p.1 ≠ b)
    {W : Nat → Nat → Hp → Prop} {m0 : Nat} (w0 : W 0 m0 H)
    (turn : ∀ i m H, W i m H → (J.stop i H ∧ Q (.ref D) H) ∨ (J.go i H ∧ ∃ Nx : Hp → Prop, (∀ H', Nx H' → ∃ m', m' < m ∧ W (i + 1) m' H') ∧ ∀ x H', J.yld i H x H' → g x (wipe σ (own.map (·.2))) H' fun σ2 H2 => wipe σ2 (own.map (·.2)) = wipe σ (own.map (·.2)) ∧ tt σ2 H2 fun b H3 =>
      if b = true then te σ2 H3 fun y H4 => ∃ acc, H4 D = some (.lst acc) ∧ acc.length < sizeLine ∧ Nx (upd H4 D (.lst (acc ++ [y]))) else Nx H3))
    (fin : ∀ H' s1, Inv (blkH X s H scope cenv fp) [] (wipe σ (own.map (·.2))) H' s1 → Q (.ref D) H' → R (.ok .next) s1) :
    codeAny (model X.prog X.w) X.A (.compLoop (.ListComp elt [⟨tg, iter, ifs, 0⟩] scope pos) 0 (.ref it) (.ref D) cenv) R s' := by
  have aside : ∀ {σ1 : St} {H1 : Hp} {s1 : Shared}, Inv (blkH X s H scope cenv fp) [] σ1 H1 s1 → (∀ b ∈ fp, H1 b = none) → ∀ b ∈ fp, FpOk (blkH X s H scope cenv fp) [] H1 b := fun {σ1 H1 s1} I1 h1 b hb =>
    ⟨h1 b hb, (I1.ok.exf b hb).1, I1.ok.exfs b hb, .inl hb, (I1.ok.exf b hb).2, fun p hp => far b hb p (by simpa using hp)⟩
  refine compLoop_any (fun n s1 => ∃ i H1, Inv (blkH X s H scope cenv fp) [] (wipe σ (own.map (·.2))) H1 s1 ∧ tn i s1.heap ∧ (∀ b ∈ fp, H1 b = none) ∧ W i n H1) ?_ m0 ⟨0, H, I0, st0, free0, w0⟩
  rintro n s1 ⟨i, H1, I1, st1, fr1, w1⟩
  rcases turn i n H1 w1 with ⟨stop, qq⟩ | ⟨go, Nx, hNx, step⟩
  · refine thnF (T.done (blkH X s H scope cenv fp) rfl rfl rfl (hotBlk hc) i [] s1 _ H1 (fun _ _ => False) I1 (aside I1 fr1) st1 stop) fun r s2 ⟨hr, I2⟩ => ?_
    subst hr
    exact fin H1 s2 I2 qq
  · refine thnF (T.item (blkH X s H scope cenv fp) rfl rfl rfl (hotBlk hc) i [] s1 _ H1 (fun _ _ => False) I1 (aside I1 fr1) st1 go) fun r s2 ⟨u, hr, h2⟩ => ?_
    subst hr
    refine thnF h2 fun _ s3 ⟨x, H3, I3, r3, y3, st3, fr3⟩ => ?_
    refine thnF (pg.run _ s3 _ H3 x u _ (I3.pinned (aside I3 fr3) (T.obj _ _ st3)) r3 (step x H3 y3)) fun _ s4 ⟨σ4, H4, I4, e4, q4⟩ => ?_
    refine thnF (pt.run _ s4 σ4 H4 _ I4 q4) fun b s5 ⟨H5, I5, q5⟩ => ?_
    have next : ∀ {s6 : Shared} {H6 : Hp}, Inv (blkH X s H scope cenv fp) ([] ++ pinsAt fp s3.heap) σ4 H6 s6 → Nx H6 → ∃ m, m < n ∧ ∃ i H1, Inv (blkH X s H scope cenv fp) [] (wipe σ (own.map (·.2))) H1 s6 ∧ tn i s6.heap ∧ (∀ b ∈ fp, H1 b = none) ∧ W i m H1 := fun {s6 H6} I6 nx => by
      obtain ⟨m', hm, w'⟩ := hNx H6 nx
      have still : ∀ b ∈ fp, ∀ o, s3.heap.get? b = some o → s6.heap.get? b = some o ∧ H6 b = none := fun b hb o e =>
        ⟨(I6.pin (b, o) (List.mem_append_right _ (List.mem_append_right _ (mem_pinsAt hb e)))).1, (I6.pin (b, o) (List.mem_append_right _ (List.mem_append_right _ (mem_pinsAt hb e)))).2.1⟩
      refine ⟨m', hm, i + 1, H6, (I6.unpinned (pins := [])).weak (by rw [← e4, wipe_length]) (fun j v e => ?_), T.keep _ _ _ st3 fun b hb o e => (still b hb o e).1, fun b hb => ?_, w'⟩
      · rw [← e4] at e; exact (wipe_some e).1
      · obtain ⟨o, e, _⟩ := T.obj _ _ st3 b hb
        exact (still b hb o e).2
    cases b with
    | false =>
      simp only [Bool.false_eq_true, if_false] at q5 ⊢
      exact next I5 q5
    | true =>
      simp only [if_true] at q5 ⊢
      refine thnF (pe.run _ s5 σ4 H5 _ I5 q5) fun z s6 ⟨yv, H6, I6, r6, acc, hD, hz, nx⟩ => ?_
      exact app_ok (X := blkH X s H scope cenv fp) I6 hD hz r6 fun s7 I7 => next I7 nx
/-- [..] while an exception is handled -/
theorem lcH_core {pins : List (Addr × Obj)} {s : Shared} {σ : St} {H : Hp} {Q : VK} {use : Option (Value → Sem Unit)} {Qf : Value → Shared → Prop} (hc : L2H.HotC X) (hN : X.N.Nodup) (I : Inv X pins σ H s) (hi : L2H.PIH X tg iter wi) (ok : BlkOk X.N X.env.scope scope own)
    (hg : ∀ (s : Shared) (H : Hp) (C : Addr) (cl : List (Str × Addr)) (fp : List Addr), PG (blkH X s H scope (compEnvC scope cl C X.env) fp) tg g) (ht : ∀ (s : Shared) (H : Hp) (C : Addr) (cl : List (Str × Addr)) (fp : List Addr), PTs (blkH X s H scope (compEnvC scope cl C X.env) fp) ifs tt)
    (he : ∀ (s : Shared) (H : Hp) (C : Addr) (cl : List (Str × Addr)) (fp : List Addr), PE (blkH X s H scope (compEnvC scope cl C X.env) fp) elt te) (hs : ∀ x, foldedSetIterable iter X.env x = pure x)
    (h : tLc wi g tt te (own.map (·.2)) σ H Q)
    (out : ∀ D C s' m H', Inv X pins σ H' s' → Q (.ref D) H' → s'.heap.Ns C m → FpOk X pins H' C → compPost (model X.prog X.w) X.A X.xe use Qf (.ref D) C (.ok .next) s') :
    wpAny (model X.prog X.w) X.A (comprehension (.ListComp elt [⟨tg, iter, ifs, 0⟩] scope pos) scope X.env pos' (newList []) false (eval iter X.env) use) Qf X.xe s := by
  refine wpAny_comprehension_free (use := use) rfl hs (closure_ok fun y hy e => (ok.free y hy e).elim (fun k => I.ok.has _ (.inl k)) fun k => I.ok.has _ (.inr k)) ok.kind (fun y hy e => by rw [ok.uniq y hy, e])
    (thn (hi.run pins s σ H _ I h) fun xv s1 hx => thn hx fun itv s2 ⟨it, fp, tn, J, H2, e, I2, T, st2, f2, q⟩ => ?_)
  subst e
  refine wpAny_newObj_type (newEnv_comp ?_) (by show 0 ≤ sizeLine; decide)
  have hDn : H2 s2.heap.objs.size = none := I2.hok.fresh (Nat.le_refl _)
  obtain ⟨W, ⟨m0, w0⟩, turn⟩ := q _ hDn
  have I3 : Inv X pins σ (upd H2 s2.heap.objs.size (.lst [])) { s2 with heap := s2.heap.push { cls := .type "list", data := .seq ([] : List Value).toArray } } :=
    I2.laid (t' := s2.toks) (fun b o e => Heap.get?_push_of_some _ e) (Nat.le_refl _) ⟨Nat.zero_le _, [], 0, .nil, Heap.get?_push_size _ rfl⟩
  have lt2 : ∀ b ∈ fp, b < s2.heap.objs.size := fun b hb => let ⟨o, e, _⟩ := T.obj _ _ st2 b hb; Heap.lt_size e
  have nfp : ∀ b ∈ fp, (upd H2 s2.heap.objs.size (.lst [])) b = none := fun b hb => by rw [upd_ne (Nat.ne_of_lt (lt2 b hb))]; exact (f2 b hb).1
  have st3 : tn 0 (s2.heap.push { cls := .type "list", data := .seq ([] : List Value).toArray }) := T.keep _ _ _ st2 fun b _ o e => Heap.get?_push_of_some _ e
  have sz3 : (s2.heap.push { cls := .type "list", data := .seq ([] : List Value).toArray }).objs.size = s2.heap.objs.size + 1 := Heap.size_push ..
  have f3 : ∀ b ∈ fp, FpOk X pins (upd H2 s2.heap.objs.size (.lst [])) b ∧ b < (s2.heap.push { cls := .type "list", data := .seq ([] : List Value).toArray }).objs.size := fun b hb =>
    ⟨⟨nfp b hb, (f2 b hb).2⟩, by rw [sz3]; exact Nat.lt_succ_of_lt (lt2 b hb)⟩
  generalize hs3 : ({ s2 with heap := s2.heap.push { cls := .type "list", data := .seq ([] : List Value).toArray } } : Shared) = s3 at I3 ⊢
  have h3 : s2.heap.push { cls := .type "list", data := .seq ([] : List Value).toArray } = s3.heap := by rw [← hs3]
  rw [h3] at st3 f3
  have I4 := blkH_start I3 ok hN f3
  have st4 : tn 0 (pushCells (s3.heap.push { cls := .type "dict", data := .dict #[] }) scope.names) := T.keep _ _ _ st3 fun b _ o e => pushCells_keeps _ _ _ _ (Heap.get?_push_of_some _ e)
  have loop := lcH_loop (R := compPost (model X.prog X.w) X.A X.xe use Qf (.ref s2.heap.objs.size) s3.heap.objs.size) (iter := iter) (pos := pos) hc T I4 st4 nfp (hg _ _ _ _ _) (ht _ _ _ _ _) (he _ _ _ _ _) (fun b hb p hp => (f3 b hb).1.2.2.2.2.2 p (List.mem_append_left _ hp)) w0 turn fun H' s5 I5 q5 => by
    have I7 : Inv X pins σ H' s5 := I3.call' (ch := fp) I5.os I5.base I5.hok I5.bare fun b hb => ⟨(f3 b hb).1.2.2.2.1, (f3 b hb).1.2.1, (f3 b hb).1.2.2.2.2.1, (f3 b hb).1.2.2.2.2.2⟩
    obtain ⟨m, hn, _⟩ := I5.loc
    exact out _ s3.heap.objs.size s5 m H' I7 q5 hn (I3.fpOk (Nat.le_refl _) I5.free)
  exact codeAny_compStart_list loop (T.self X.A 0 _ _ _ st4 loop)
theorem pe_lcH (hc : L2H.HotC X) (hN : X.N.Nodup) (hi : L2H.PIH X tg iter wi) (ok : BlkOk X.N X.env.scope scope own)
    (hg : ∀ (s : Shared) (H : Hp) (C : Addr) (cl : List (Str × Addr)) (fp : List Addr), PG (blkH X s H scope (compEnvC scope cl C X.env) fp) tg g) (ht : ∀ (s : Shared) (H : Hp) (C : Addr) (cl : List (Str × Addr)) (fp : List Addr), PTs (blkH X s H scope (compEnvC scope cl C X.env) fp) ifs tt)
    (he : ∀ (s : Shared) (H : Hp) (C : Addr) (cl : List (Str × Addr)) (fp : List Addr), PE (blkH X s H scope (compEnvC scope cl C X.env) fp) elt te) (hs : ∀ x, foldedSetIterable iter X.env x = pure x := by intro _; rfl) :
    PE X (.ListComp elt [⟨tg, iter, ifs, 0⟩] scope pos) (tLc wi g tt te (own.map (·.2))) := by
  refine ⟨fun pins s σ H Q I h => ?_⟩
  rw [eval_ListComp]
  refine lcH_core hc hN I hi ok hg ht he hs h fun D C s' m H' I' q hn ⟨f0, f1, f2, f3, f4, f5⟩ => ⟨m, hn, fun h2 sb => ?_⟩
  exact ⟨.ref D, H', I'.turned (t' := s'.toks) (fun b o hb e => (sb.2 b hb).trans e) f0 f1 f3 f4 f5, rfl, q⟩
/-- name = [..] on one line, the name a local -/
theorem ps_setLcH {i : Nat} {y : Str} {py spos : Pos} (hc : L2H.HotC X) (hN : X.N.Nodup) (hy : X.N[i]? = some y) (hyl : X.env.scope.names.lookup y = some .local)
    (hsw : swapsWith (.ListComp elt [⟨tg, iter, ifs, 0⟩] scope pos) (some (.Name y py)) spos.line X.env = pure true) (hi : L2H.PIH X tg iter wi) (ok : BlkOk X.N X.env.scope scope own)
    (hg : ∀ (s : Shared) (H : Hp) (C : Addr) (cl : List (Str × Addr)) (fp : List Addr), PG (blkH X s H scope (compEnvC scope cl C X.env) fp) tg g) (ht : ∀ (s : Shared) (H : Hp) (C : Addr) (cl : List (Str × Addr)) (fp : List Addr), PTs (blkH X s H scope (compEnvC scope cl C X.env) fp) ifs tt)
    (he : ∀ (s : Shared) (H : Hp) (C : Addr) (cl : List (Str × Addr)) (fp : List Addr), PE (blkH X s H scope (compEnvC scope cl C X.env) fp) elt te) (hs : ∀ x, foldedSetIterable iter X.env x = pure x := by intro _; rfl) :
    PS X (.Assign [.Name y py] (.ListComp elt [⟨tg, iter, ifs, 0⟩] scope pos) spos) (tAsg (tLc wi g tt te (own.map (·.2))) (gName i)) := by
  refine ⟨fun pins s σ H D I h => ?_⟩
  rw [exec_Assign_Name_used _ _ _ _ hsw]
  refine wpAny_bind (wpAny_standAt (wpAny_bind ?_))
  show wpAny _ X.A (do let _ ← comprehension (.ListComp elt [⟨tg, iter, ifs, 0⟩] scope pos) scope X.env (firstIterPos [⟨tg, iter, ifs, 0⟩] pos) (newList []) false (eval iter X.env) (some (assign (.Name y py) X.env))) _ _ s
  have h : tLc wi g tt te (own.map (·.2)) σ H (fun x H1 => gName i x σ H1 D.nx) := h
  refine wpAny_bind (thn (lcH_core (Qf := fun _ s' => SP X pins D .next s') hc hN I hi ok hg ht he hs h fun L C s' m H' I' q hn ⟨f0, f1, f2, f3, f4, f5⟩ => ?_) fun _ s' hq => wpAny_pure (wpAny_pure hq))
  show wpAny _ _ (assign (.Name y py) X.env (.ref L)) _ _ _
  refine wpAny_assign_Name (store_ok2 (v := V.ref L) I' hN hy (.inl hyl) rfl (fun s2 I2 ⟨a, sb, ha⟩ => ⟨m, hn.sameBut sb ?_, fun h3 sb3 => ⟨_, H', I2.turned (t' := s2.toks) (fun b o hb e => (sb3.2 b hb).trans e) f0 f1 f3 f4 f5, q⟩⟩) (.inr hyl))
  rcases ha with z | z
  · rw [z]; exact f1
  · exact fun e => f4 y a z e.symm
end
end Lk
namespace Lk
open PySem PySem.Spec PyProof.Rows L2
local macro_rules | `(tactic| walk_at "hp") => `(tactic| first
  | assumption
  | exact upd_same
  | ((with_reducible show upd _ _ _ _ = _); first | exact upd_new (by assumption) (by walk_at "hp") | exact upd_get (by walk_at "ne") (by walk_at "hp") | exact upd_kind (by assumption) (by walk_at "hp") (by intro z; cases z))
  | exact Kp.at0 (by assumption) (by walk_at "hp")
  | exact Kp.at (by assumption) (by walk_at "hp") (by walk_at "nm"))
local macro_rules | `(tactic| walk_at "ne") => `(tactic| first
  | assumption
  | exact Ne.symm (by assumption)
  | exact ne_n (by assumption) (by walk_at "hp")
  | exact ne_n' (by assumption) (by walk_at "hp"))
local macro_rules | `(tactic| walk_at "nm") => `(tactic| first
  | exact List.not_mem_nil
  | (refine not_mem2 (by walk_at "ne") ?_; walk_at "nm"))
local macro_rules | `(tactic| walk_at "kp") => `(tactic| first
  | exact Kp.refl
  | assumption
  | (refine Kp.new ?_ (by assumption); walk_at "kp")
  | (refine Kp.mut ?_ (by simp); walk_at "kp")
  | (refine Kp.own ?_ (by walk_at "fr"); walk_at "kp")
  | (refine Kp.trans0 ?_ (by assumption); walk_at "kp")
  | (refine Kp.trans ?_ (by assumption); walk_at "kp"))
local macro_rules | `(tactic| walk_at "num") => `(tactic| first
  | omega
  | (simp only [sizeLine_eq, List.length_map, List.length_append, List.length_cons, List.length_nil, List.length_replicate, List.length_set, List.length_range, CMul, CDivN, CDiv, CPow]; omega)
  | decide)
local macro_rules | `(tactic| walk_at "put") => `(tactic| first
  | (with_reducible exact put_nil)
  | (with_reducible exact put_hit)
  | exact put_miss (by decide) (by walk_at "put"))
local macro_rules | `(tactic| walk_at "fr") => `(tactic| first
  | assumption
  | exact upd_nil (by assumption)
  | exact upd_nil (upd_nil (by assumption))
  | exact upd_nil (upd_nil (upd_nil (by assumption)))
  | exact upd_nil (upd_nil (upd_nil (upd_nil (by assumption))))
  | exact upd_nil (upd_nil (upd_nil (upd_nil (upd_nil (by assumption)))))
  | exact upd_nil (upd_nil (upd_nil (upd_nil (upd_nil (upd_nil (by assumption))))))
  | exact upd_nil (upd_nil (upd_nil (upd_nil (upd_nil (upd_nil (upd_nil (by assumption)))))))
  | exact upd_nil (upd_nil (upd_nil (upd_nil (upd_nil (upd_nil (upd_nil (upd_nil (by assumption))))))))
  | exact upd_nil (upd_nil (upd_nil (upd_nil (upd_nil (upd_nil (upd_nil (upd_nil (upd_nil (by assumption)))))))))
  | exact upd_nil (upd_nil (upd_nil (upd_nil (upd_nil (upd_nil (upd_nil (upd_nil (upd_nil (upd_nil (by assumption))))))))))
  | exact upd_nil (upd_nil (upd_nil (upd_nil (upd_nil (upd_nil (upd_nil (upd_nil (upd_nil (upd_nil (upd_nil (by assumption)))))))))))
  | exact Kp.free (by assumption) (by walk_at "fr"))
local macro_rules | `(tactic| walk_at "lg") => `(tactic| first
  | assumption
  | exact log2_small (by omega))
local macro_rules | `(tactic| walk_at "tst") => `(tactic| first
  | assumption
  | rfl
  | omega)
local macro_rules | `(tactic| walk_at "s") => `(tactic| with_reducible first
  | refine s_seq ?_
  | refine s_var (by with_unfolding_all rfl) ?_
  | refine s_c ?_
  | refine s_op ?_
  | refine s_cons ?_
  | refine s_nil ?_
  | refine s_asg ?_
  | refine s_name (by with_unfolding_all rfl) ?_
  | refine s_sub ?_
  | refine s_callS ?_
  | refine s_CB ?_
  | refine s_BM ?_
  | refine s_BM0 ?_
  | refine s_ret ?_
  | refine s_drop ?_
  | refine s_ifS ?_
  | refine s_B ?_
  | refine s_tru ?_
  | refine s_and ?_
  | refine s_or ?_
  | refine s_not ?_
  | refine s_andV ?_
  | refine s_orV ?_
  | refine s_notV ?_
  | refine s_if ?_
  | refine s_chain ?_
  | refine s_un ?_
  | refine s_lst ?_
  | refine s_tup ?_
  | refine s_sl ?_
  | refine s_nopart ?_
  | refine s_part ?_
  | refine s_next ?_
  | refine s_retN ?_
  | refine s_yes ?_
  | refine s_forR1 ?_
  | refine s_forR2 ?_
  | refine s_forL ?_
  | refine s_forE ?_
  | refine s_lcL ?_
  | refine s_lcR1 ?_
  | refine s_lcR2 ?_
  | refine s_lcE ?_
  | refine s_chain3 ?_
  | refine s_mkx ?_
  | refine s_xfR ?_
  | refine s_fld ?_
  | refine s_sfld ?_
  | refine s_methS ?_
  | refine s_makeS ?_
  | refine s_cval ?_
  | refine s_listRg ?_
  | refine s_lcV ?_)
local macro_rules | `(tactic| walk_at "v") => `(tactic| first
  | ((with_reducible show rIx _ _ _ _ _); first  | (refine w_ixM (by walk_at "hp") (by walk_at "num") (by walk_at "num") ?_) | (refine w_ixQ (by assumption) (by walk_at "num") (by walk_at "num") ?_) | (refine w_ixL (by walk_at "hp") (by walk_at "num") (by first | rfl | assumption) ?_) | (refine w_ixT (by walk_at "hp") (by walk_at "num") (by first | rfl | assumption) ?_) | (refine w_ixNeg (by walk_at "hp") (by walk_at "num") (by walk_at "num") ?_))
  | (with_reducible refine w_I0 ?_)
  | ((with_reducible show rI _ _ _ _ _ _); first  | (refine w_I (by walk_at "num") ?_))
  | (with_reducible refine w_B ?_)
  | (with_reducible refine w_truB ?_)
  | (with_reducible refine w_addI ?_)
  | ((with_reducible show aAdd _ _ _ _); first  | (refine w_addL1 (by walk_at "hp") (by walk_at "hp") (by walk_at "num") ?_) | (refine w_addR1 (by walk_at "hp") (by walk_at "hp") (by walk_at "num") ?_) | (refine w_addLM (by walk_at "hp") (by walk_at "hp") (by walk_at "num") ?_) | (refine w_addL (by walk_at "hp") (by walk_at "hp") (by walk_at "num") ?_) | (refine w_addS (by walk_at "num") ?_))
  | (with_reducible refine w_eqI ?_)
  | (with_reducible refine w_neI ?_)
  | (with_reducible refine w_eqB ?_)
  | (with_reducible refine w_neB ?_)
  | (with_reducible refine w_eqS ?_)
  | (with_reducible refine w_neS ?_)
  | ((with_reducible show rIsG _ _ _ _ _ _ _); first  | (refine w_isG (by walk_at "hp") (by walk_at "ef") (by walk_at "et") ?_) | (refine w_isGv (by walk_at "hp") (by walk_at "ef") (by walk_at "et") ?_))
  | ((with_reducible show aXf _ _ _ _ _ _ _ _); first  | (refine w_xf (by walk_at "hp") (by walk_at "ef") (by walk_at "fi") (by rfl) ?_))
  | ((with_reducible show rIn _ false _ _ _ _); first  | (refine w_inI (by walk_at "hp") ?_) | (refine w_inS (by walk_at "hp") ?_) | (refine w_inB (by walk_at "hp") ?_))
  | ((with_reducible show rIn _ true _ _ _ _); first  | (refine w_notInI (by walk_at "hp") ?_) | (refine w_notInS (by walk_at "hp") ?_) | (refine w_notInB (by walk_at "hp") ?_))
  | ((with_reducible show aEq _ _ _ _ _); first  | (refine w_eqLI' (by walk_at "hp") (by walk_at "hp") ?_) | (refine w_eqLI0 (by walk_at "hp") (by walk_at "hp") ?_))
  | ((with_reducible show aNe _ _ _ _ _); first  | (refine w_neLI' (by walk_at "hp") (by walk_at "hp") ?_) | (refine w_neLI0 (by walk_at "hp") (by walk_at "hp") ?_))
  | (with_reducible refine w_truI ?_)
  | (with_reducible refine w_truN ?_)
  | ((with_reducible show aTru _ _ _ _); first  | (refine w_truL (by walk_at "hp") ?_) | (refine w_truT (by walk_at "hp") ?_))
  | ((with_reducible show rSetL _ _ _ _ _); first  | (refine w_setMI (by walk_at "hp") (by walk_at "num") (by walk_at "num") ?_) | (refine w_setMB (by walk_at "hp") (by walk_at "num") (by walk_at "num") ?_) | (refine w_setMS (by walk_at "hp") (by walk_at "num") (by walk_at "num") ?_) | (refine w_setL (by walk_at "hp") (by walk_at "num") (by walk_at "num") ?_))
  | ((with_reducible show aMul _ _ _ _); first  | (refine w_mulI (by walk_at "num") ?_) | (refine w_repI (by walk_at "hp") (by walk_at "num") (by walk_at "num") (by walk_at "num") ?_) | (refine w_repB (by walk_at "hp") (by walk_at "num") (by walk_at "num") (by walk_at "num") ?_))
  | ((with_reducible show tyV _ _ _ _ ∧ _); first  | (refine w_tyL (by walk_at "hp") ?_) | (refine w_tyS ?_))
  | ((with_reducible show rAppend _ _ _ _); first  | (refine w_appMI (by walk_at "hp") (by walk_at "num") ?_) | (refine w_appMS (by walk_at "hp") (by walk_at "num") ?_) | (refine w_appMB (by walk_at "hp") (by walk_at "num") ?_) | (refine w_appL (by walk_at "hp") (by walk_at "num") ?_))
  | ((with_reducible show rLen _ _ _ _); first  | (refine w_lenM (by walk_at "hp") ?_) | (refine w_lenQ (by assumption) ?_) | (refine w_lenL (by walk_at "hp") ?_) | (refine w_lenT (by walk_at "hp") ?_) | (refine w_lenS (by walk_at "num") ?_))
  | ((with_reducible show rSum _ _ _ _); first  | (refine w_sum (by walk_at "hp") ?_))
  | ((with_reducible show rAll _ _ _ _); first  | (refine w_all (by walk_at "hp") ?_))
  | ((with_reducible show rIsC _ _ _ _); first  | (refine w_isC (by walk_at "hp") ?_))
  | ((with_reducible show rTupOf _ _ _ _); first  | (refine w_tupOf (by walk_at "hp") ?_))
  | (with_reducible refine w_isB ?_)
  | (with_reducible refine w_notB ?_)
  | ((with_reducible show gTup _ _ _ _ _ _ _); first  | (refine w_gTup (by walk_at "hp") rfl ?_))
  | (with_reducible refine w_gCons ?_)
  | (with_reducible refine w_gNil ?_)
  | (with_reducible refine w_abs ?_)
  | (with_reducible refine w_int ?_)
  | ((with_reducible show _ ≤ sizeLine ∧ _); first  | (refine w_new (by walk_at "num") ?_))
  | (with_reducible refine w_U ?_)
  | ((with_reducible show rSlA _ _ _ _ _ _); first  | (refine w_slM (by walk_at "hp") ?_) | (refine w_slL (by walk_at "hp") ?_) | (refine w_slS (by walk_at "num") ?_) | (refine w_slQ (by assumption) ?_))
  | (with_reducible refine w_part ?_)
  | ((with_reducible show rListOf _ _ _ _); first  | (refine w_listL (by walk_at "hp") ?_) | (refine w_listT (by walk_at "hp") ?_))
  | ((with_reducible show rInsert _ _ _ _); first  | (refine w_insMI (by walk_at "hp") (by walk_at "num") (by walk_at "num") (by walk_at "num") ?_) | (refine w_insMS (by walk_at "hp") (by walk_at "num") (by walk_at "num") (by walk_at "num") ?_))
  | ((with_reducible show rReverse _ _ _ _); first  | (refine w_rev (by walk_at "hp") ?_))
  | ((with_reducible show rIsi _ _ _ _); first  | (with_reducible refine w_isiI kb_ii ?_) | (with_reducible refine w_isiI kb_ib ?_) | (with_reducible refine w_isiI kb_is ?_) | (with_reducible refine w_isiI kb_il ?_) | (with_reducible refine w_isiI kb_it ?_) | (with_reducible refine w_isiB kb_bi ?_) | (with_reducible refine w_isiB kb_bb ?_) | (with_reducible refine w_isiB kb_bt ?_) | (with_reducible refine w_isiS kb_ss ?_) | (with_reducible refine w_isiS kb_si ?_) | (with_reducible refine w_isiS kb_st ?_) | (with_reducible refine w_isiS kb_sl ?_) | (with_reducible refine w_isiN kb_nt ?_) | (with_reducible refine w_isiN kb_ni ?_) | (with_reducible refine w_isiN kb_nl ?_) | (with_reducible refine w_isiN kb_ns ?_) | (refine w_isiL (by walk_at "hp") kb_ll ?_) | (refine w_isiT (by walk_at "hp") kb_tt ?_) | (refine w_isiL (by walk_at "hp") kb_lt ?_) | (refine w_isiL (by walk_at "hp") kb_li ?_) | (refine w_isiT (by walk_at "hp") kb_tl ?_))
  | ((with_reducible show aFld _ _ _ _ _); first  | (refine w_fld (by walk_at "hp") (by walk_at "cl") (by walk_at "na") (by rfl) ?_))
  | ((with_reducible show aSFld _ _ _ _ _ _); first  | (refine w_sfld (by walk_at "hp") (by walk_at "cl") (by walk_at "na") (by simp) (by walk_at "put") ?_))
  | ((with_reducible show aMeth _ _ _ _ _); first  | (refine w_meth (by walk_at "hp") (by rfl) ?_))
  | ((with_reducible show aCVal _ _ _ _ _); first  | (refine w_cval (by walk_at "rd") (by walk_at "cv") ?_))
  | ((with_reducible show rJoin _ _ _ _ _); first  | (refine w_join (by walk_at "hp") (by walk_at "num") ?_))
  | ((with_reducible show rSplit _ _ _ _); first  | (refine w_split (by decide) (by walk_at "num") ?_))
  | (with_reducible refine w_digit ?_)
  | (with_reducible refine w_ascii ?_)
  | ((with_reducible show rIntA _ _ _); first  | (with_reducible refine w_intA ?_) | (with_reducible refine w_intB ?_))
  | ((with_reducible show rStrI _ _ _); first  | (refine w_strI (by walk_at "lg") ?_))
  | (with_reducible refine w_rngV ?_)
  | ((with_reducible show aRgL _ _ _ _); first  | (refine w_rgL ⟨(by walk_at "num"), (by walk_at "num"), (by walk_at "num"), (by walk_at "num"), (by walk_at "num")⟩ ?_))
  | (with_reducible refine w_max2 ?_)
  | (with_reducible refine w_min2 ?_)
  | ((with_reducible show aIsN _ _ _ _); first  | (with_reducible refine w_isN_n ?_) | (with_reducible refine w_isN_i ?_) | (with_reducible refine w_isN_r ?_) | (with_reducible refine w_isN_s ?_))
  | ((with_reducible show aNotN _ _ _ _); first  | (with_reducible refine w_notN_n ?_) | (with_reducible refine w_notN_i ?_) | (with_reducible refine w_notN_r ?_) | (with_reducible refine w_notN_s ?_)))
local macro_rules | `(tactic| walk_at "i") => `(tactic| first
  | (with_reducible refine w_ite1 ?_)
  | (with_reducible refine w_ite0 ?_)
  | ((with_reducible refine w_iteT ?_ ?_); (· walk_at "tst"))
  | ((with_reducible refine w_iteF ?_ ?_); (· walk_at "tst"))
  | ((with_reducible refine w_iteNT ?_ ?_); (· walk_at "tst"))
  | ((with_reducible refine w_iteNF ?_ ?_); (· walk_at "tst"))
  | ((with_reducible refine w_itebT ?_ ?_); (· walk_at "tst"))
  | ((with_reducible refine w_itebF ?_ ?_); (· walk_at "tst"))
  | ((with_reducible refine w_itenbT ?_ ?_); (· walk_at "tst"))
  | ((with_reducible refine w_itenbF ?_ ?_); (· walk_at "tst")))
local macro_rules | `(tactic| walk_at "w") => `(tactic| repeat (first | walk_at "s" | walk_at "v" | walk_at "i" | (with_reducible dsimp only)))
def top (i : Nat) : Stmt := PySem.Challenge.pw_latelink_k17_whole_first_repair.main.body.getD i (.Pass ⟨0, 0, 0, 0⟩)
abbrev s_check_size : Stmt := top 14
abbrev s_check_operation : Stmt := top 15
abbrev s_is_number : Stmt := top 16
abbrev s_check_gap : Stmt := top 18
abbrev s_left_holds : Stmt := top 19
abbrev s_right_holds : Stmt := top 20
abbrev s_gap_state : Stmt := top 21
abbrev s_gap_states : Stmt := top 22
abbrev s_lost_gaps : Stmt := top 23
abbrev s_foreign_writes : Stmt := top 24
abbrev s_check_repairable : Stmt := top 26
abbrev s_is_due : Stmt := top 27
abbrev s__share : Stmt := top 28
abbrev s_is_repairable : Stmt := top 29
abbrev s_due_nodes : Stmt := top 30
abbrev s_settled_debt : Stmt := top 31
abbrev s_debt_of : Stmt := top 32
abbrev s__numbers : Stmt := top 35
abbrev s__read_rights : Stmt := top 36
abbrev s__read_lefts : Stmt := top 37
abbrev s__read_outs : Stmt := top 38
abbrev s_lowers : Stmt := top 41
abbrev s__first_lowering : Stmt := top 42
abbrev s_first_repair : Stmt := top 43
abbrev s__law_bag : Stmt := top 45
abbrev s__law_draw : Stmt := top 46
abbrev s__law_size : Stmt := top 47
abbrev s__law_standing : Stmt := top 48
abbrev s__law_dump : Stmt := top 49
abbrev s__law_copy : Stmt := top 50
abbrev s__law_step : Stmt := top 51
abbrev s__law_operation : Stmt := top 52
abbrev s__law_is_whole : Stmt := top 53
abbrev s__law_lost : Stmt := top 54
abbrev s__law_is_due : Stmt := top 55
abbrev s__law_due : Stmt := top 56
abbrev s__law_owed : Stmt := top 57
abbrev s__law_lowers : Stmt := top 58
abbrev s__law_number : Stmt := top 59
abbrev s__law_numbers : Stmt := top 60
abbrev s__law_is_first : Stmt := top 61
abbrev s__law_acts_fit : Stmt := top 62
abbrev s__law_asked : Stmt := top 63
abbrev s__law_begun : Stmt := top 64
abbrev s_law : Stmt := top 65
abbrev s_BadOperation___init__ : Stmt := inClass (top 4) 0
abbrev s_Illegal___init__ : Stmt := inClass (top 5) 0
abbrev s_BadSize___init__ : Stmt := inClass (top 6) 0
abbrev s_BadNode___init__ : Stmt := inClass (top 7) 0
abbrev s_BadGap___init__ : Stmt := inClass (top 8) 0
abbrev s_BadDump___init__ : Stmt := inClass (top 9) 0
abbrev s_NotRepairable___init__ : Stmt := inClass (top 10) 0
abbrev s_Links___init__ : Stmt := inClass (top 39) 1
abbrev s_Links_built : Stmt := inClass (top 39) 2
abbrev s_Links_read : Stmt := inClass (top 39) 3
abbrev s_Links_left : Stmt := inClass (top 39) 4
abbrev s_Links_right : Stmt := inClass (top 39) 5
abbrev s_Links_is_out : Stmt := inClass (top 39) 6
abbrev s_Links_outs : Stmt := inClass (top 39) 7
abbrev s_Links_operation_on : Stmt := inClass (top 39) 8
abbrev s_Links_apply : Stmt := inClass (top 39) 9
abbrev s_Links_apply_at : Stmt := inClass (top 39) 10
abbrev s_Links_walk : Stmt := inClass (top 39) 11
abbrev s_Links_walk_back : Stmt := inClass (top 39) 12
abbrev s_Links_is_sound : Stmt := inClass (top 39) 13
abbrev s_Links_is_whole : Stmt := inClass (top 39) 14
abbrev s_Links_copy : Stmt := inClass (top 39) 15
abbrev s_Links_dump : Stmt := inClass (top 39) 16
abbrev s_Links__dump_parts : Stmt := inClass (top 39) 17
abbrev s_Links___str__ : Stmt := inClass (top 39) 18
abbrev s_Links___len__ : Stmt := inClass (top 39) 19
abbrev s_Links___contains__ : Stmt := inClass (top 39) 20
abbrev s_Links___eq__ : Stmt := inClass (top 39) 21
/-- where things stand -/
structure AD where
  f_check_size : Addr
  f_check_operation : Addr
  f_is_number : Addr
  f_check_gap : Addr
  f_left_holds : Addr
  f_right_holds : Addr
  f_gap_state : Addr
  f_gap_states : Addr
  f_lost_gaps : Addr
  f_foreign_writes : Addr
  f_check_repairable : Addr
  f_is_due : Addr
  f__share : Addr
  f_is_repairable : Addr
  f_due_nodes : Addr
  f_settled_debt : Addr
  f_debt_of : Addr
  f__numbers : Addr
  f__read_rights : Addr
  f__read_lefts : Addr
  f__read_outs : Addr
  f_lowers : Addr
  f__first_lowering : Addr
  f_first_repair : Addr
  f__law_bag : Addr
  f__law_draw : Addr
  f__law_size : Addr
  f__law_standing : Addr
  f__law_dump : Addr
  f__law_copy : Addr
  f__law_step : Addr
  f__law_operation : Addr
  f__law_is_whole : Addr
  f__law_lost : Addr
  f__law_is_due : Addr
  f__law_due : Addr
  f__law_owed : Addr
  f__law_lowers : Addr
  f__law_number : Addr
  f__law_numbers : Addr
  f__law_is_first : Addr
  f__law_acts_fit : Addr
  f__law_asked : Addr
  f__law_begun : Addr
  f_law : Addr
  f_Links___init__ : Addr
  f_Links_built : Addr
  f_Links_read : Addr
  f_Links_left : Addr
  f_Links_right : Addr
  f_Links_is_out : Addr
  f_Links_operation_on : Addr
  f_Links_apply : Addr
  f_Links_apply_at : Addr
  f_Links_copy : Addr
  f_Links_dump : Addr
  f_Links__dump_parts : Addr
  Links : Addr
  LinkError : Addr
  LogError : Addr
  BadOperation : Addr
  i_BadOperation : Addr
  Illegal : Addr
  i_Illegal : Addr
  BadSize : Addr
  i_BadSize : Addr
  BadNode : Addr
  i_BadNode : Addr
  BadGap : Addr
  i_BadGap : Addr
  BadDump : Addr
  i_BadDump : Addr
  NotRepairable : Addr
  i_NotRepairable : Addr
structure Txt (P : Program) (K : PySem.W.Frag) (mg : Str → Option Value) (a : AD) : Prop where
  n_check_size : Nm K mg "check_size" a.f_check_size
  F_check_size : ∃ fd, Fun K "check_size" "check_size" s_check_size a.f_check_size fd ∧ Binds K fd ["size"] []
  n_check_operation : Nm K mg "check_operation" a.f_check_operation
  F_check_operation : ∃ fd, Fun K "check_operation" "check_operation" s_check_operation a.f_check_operation fd ∧ Binds K fd ["size", "operation", "index"] []
  n_is_number : Nm K mg "is_number" a.f_is_number
  F_is_number : ∃ fd, Fun K "is_number" "is_number" s_is_number a.f_is_number fd ∧ Binds K fd ["word"] []
  n_check_gap : Nm K mg "check_gap" a.f_check_gap
  F_check_gap : ∃ fd, Fun K "check_gap" "check_gap" s_check_gap a.f_check_gap fd ∧ Binds K fd ["size", "gap"] []
  n_left_holds : Nm K mg "left_holds" a.f_left_holds
  F_left_holds : ∃ fd, Fun K "left_holds" "left_holds" s_left_holds a.f_left_holds fd ∧ Binds K fd ["links", "gap"] []
  n_right_holds : Nm K mg "right_holds" a.f_right_holds
  F_right_holds : ∃ fd, Fun K "right_holds" "right_holds" s_right_holds a.f_right_holds fd ∧ Binds K fd ["links", "gap"] []
  n_gap_state : Nm K mg "gap_state" a.f_gap_state
  F_gap_state : ∃ fd, Fun K "gap_state" "gap_state" s_gap_state a.f_gap_state fd ∧ Binds K fd ["links", "gap"] []
  n_gap_states : Nm K mg "gap_states" a.f_gap_states
  F_gap_states : ∃ fd, Fun K "gap_states" "gap_states" s_gap_states a.f_gap_states fd ∧ Binds K fd ["links"] []
  n_lost_gaps : Nm K mg "lost_gaps" a.f_lost_gaps
  F_lost_gaps : ∃ fd, Fun K "lost_gaps" "lost_gaps" s_lost_gaps a.f_lost_gaps fd ∧ Binds K fd ["links"] []
  n_foreign_writes : Nm K mg "foreign_writes" a.f_foreign_writes
  F_foreign_writes : ∃ fd, Fun K "foreign_writes" "foreign_writes" s_foreign_writes a.f_foreign_writes fd ∧ Binds K fd ["links", "operation"] []
  n_check_repairable : Nm K mg "check_repairable" a.f_check_repairable
  F_check_repairable : ∃ fd, Fun K "check_repairable" "check_repairable" s_check_repairable a.f_check_repairable fd ∧ Binds K fd ["links"] []
  n_is_due : Nm K mg "is_due" a.f_is_due
  F_is_due : ∃ fd, Fun K "is_due" "is_due" s_is_due a.f_is_due fd ∧ Binds K fd ["links", "node"] []
  n__share : Nm K mg "_share" a.f__share
  F__share : ∃ fd, Fun K "_share" "_share" s__share a.f__share fd ∧ Binds K fd ["links", "node"] []
  n_is_repairable : Nm K mg "is_repairable" a.f_is_repairable
  F_is_repairable : ∃ fd, Fun K "is_repairable" "is_repairable" s_is_repairable a.f_is_repairable fd ∧ Binds K fd ["links"] []
  n_due_nodes : Nm K mg "due_nodes" a.f_due_nodes
  F_due_nodes : ∃ fd, Fun K "due_nodes" "due_nodes" s_due_nodes a.f_due_nodes fd ∧ Binds K fd ["links"] []
  n_settled_debt : Nm K mg "settled_debt" a.f_settled_debt
  F_settled_debt : ∃ fd, Fun K "settled_debt" "settled_debt" s_settled_debt a.f_settled_debt fd ∧ Binds K fd ["links"] []
  n_debt_of : Nm K mg "debt_of" a.f_debt_of
  F_debt_of : ∃ fd, Fun K "debt_of" "debt_of" s_debt_of a.f_debt_of fd ∧ Binds K fd ["links"] []
  n__numbers : Nm K mg "_numbers" a.f__numbers
  F__numbers : ∃ fd, Fun K "_numbers" "_numbers" s__numbers a.f__numbers fd ∧ Binds K fd ["part"] []
  n__read_rights : Nm K mg "_read_rights" a.f__read_rights
  F__read_rights : ∃ fd, Fun K "_read_rights" "_read_rights" s__read_rights a.f__read_rights fd ∧ Binds K fd ["part"] []
  n__read_lefts : Nm K mg "_read_lefts" a.f__read_lefts
  F__read_lefts : ∃ fd, Fun K "_read_lefts" "_read_lefts" s__read_lefts a.f__read_lefts fd ∧ Binds K fd ["part", "size"] []
  n__read_outs : Nm K mg "_read_outs" a.f__read_outs
  F__read_outs : ∃ fd, Fun K "_read_outs" "_read_outs" s__read_outs a.f__read_outs fd ∧ Binds K fd ["part", "size"] []
  n_lowers : Nm K mg "lowers" a.f_lowers
  F_lowers : ∃ fd, Fun K "lowers" "lowers" s_lowers a.f_lowers fd ∧ Binds K fd ["links", "node"] []
  n__first_lowering : Nm K mg "_first_lowering" a.f__first_lowering
  F__first_lowering : ∃ fd, Fun K "_first_lowering" "_first_lowering" s__first_lowering a.f__first_lowering fd ∧ Binds K fd ["links", "nodes"] []
  n_first_repair : Nm K mg "first_repair" a.f_first_repair
  F_first_repair : ∃ fd, Fun K "first_repair" "first_repair" s_first_repair a.f_first_repair fd ∧ Binds K fd ["links"] []
  n__law_bag : Nm K mg "_law_bag" a.f__law_bag
  F__law_bag : ∃ fd, Fun K "_law_bag" "_law_bag" s__law_bag a.f__law_bag fd ∧ Binds K fd ["_law_script"] []
  n__law_draw : Nm K mg "_law_draw" a.f__law_draw
  F__law_draw : ∃ fd, Fun K "_law_draw" "_law_draw" s__law_draw a.f__law_draw fd ∧ Binds K fd ["_law_bag_here", "_law_many"] []
  n__law_size : Nm K mg "_law_size" a.f__law_size
  F__law_size : ∃ fd, Fun K "_law_size" "_law_size" s__law_size a.f__law_size fd ∧ Binds K fd ["_law_bag_here"] []
  n__law_standing : Nm K mg "_law_standing" a.f__law_standing
  F__law_standing : ∃ fd, Fun K "_law_standing" "_law_standing" s__law_standing a.f__law_standing fd ∧ Binds K fd ["_law_bag_here", "_law_size_here", "_law_lossy"] []
  n__law_dump : Nm K mg "_law_dump" a.f__law_dump
  F__law_dump : ∃ fd, Fun K "_law_dump" "_law_dump" s__law_dump a.f__law_dump fd ∧ Binds K fd ["_law_book"] []
  n__law_copy : Nm K mg "_law_copy" a.f__law_copy
  F__law_copy : ∃ fd, Fun K "_law_copy" "_law_copy" s__law_copy a.f__law_copy fd ∧ Binds K fd ["_law_book"] []
  n__law_step : Nm K mg "_law_step" a.f__law_step
  F__law_step : ∃ fd, Fun K "_law_step" "_law_step" s__law_step a.f__law_step fd ∧ Binds K fd ["_law_book", "_law_node"] []
  n__law_operation : Nm K mg "_law_operation" a.f__law_operation
  F__law_operation : ∃ fd, Fun K "_law_operation" "_law_operation" s__law_operation a.f__law_operation fd ∧ Binds K fd ["_law_book", "_law_node"] []
  n__law_is_whole : Nm K mg "_law_is_whole" a.f__law_is_whole
  F__law_is_whole : ∃ fd, Fun K "_law_is_whole" "_law_is_whole" s__law_is_whole a.f__law_is_whole fd ∧ Binds K fd ["_law_book"] []
  n__law_lost : Nm K mg "_law_lost" a.f__law_lost
  F__law_lost : ∃ fd, Fun K "_law_lost" "_law_lost" s__law_lost a.f__law_lost fd ∧ Binds K fd ["_law_book"] []
  n__law_is_due : Nm K mg "_law_is_due" a.f__law_is_due
  F__law_is_due : ∃ fd, Fun K "_law_is_due" "_law_is_due" s__law_is_due a.f__law_is_due fd ∧ Binds K fd ["_law_book", "_law_node"] []
  n__law_due : Nm K mg "_law_due" a.f__law_due
  F__law_due : ∃ fd, Fun K "_law_due" "_law_due" s__law_due a.f__law_due fd ∧ Binds K fd ["_law_book"] []
  n__law_owed : Nm K mg "_law_owed" a.f__law_owed
  F__law_owed : ∃ fd, Fun K "_law_owed" "_law_owed" s__law_owed a.f__law_owed fd ∧ Binds K fd ["_law_book"] []
  n__law_lowers : Nm K mg "_law_lowers" a.f__law_lowers
  F__law_lowers : ∃ fd, Fun K "_law_lowers" "_law_lowers" s__law_lowers a.f__law_lowers fd ∧ Binds K fd ["_law_book", "_law_node"] []
  n__law_number : Nm K mg "_law_number" a.f__law_number
  F__law_number : ∃ fd, Fun K "_law_number" "_law_number" s__law_number a.f__law_number fd ∧ Binds K fd ["_law_told"] []
  n__law_numbers : Nm K mg "_law_numbers" a.f__law_numbers
  F__law_numbers : ∃ fd, Fun K "_law_numbers" "_law_numbers" s__law_numbers a.f__law_numbers fd ∧ Binds K fd ["_law_told"] []
  n__law_is_first : Nm K mg "_law_is_first" a.f__law_is_first
  F__law_is_first : ∃ fd, Fun K "_law_is_first" "_law_is_first" s__law_is_first a.f__law_is_first fd ∧ Binds K fd ["_law_start", "_law_moves"] []
  n__law_acts_fit : Nm K mg "_law_acts_fit" a.f__law_acts_fit
  F__law_acts_fit : ∃ fd, Fun K "_law_acts_fit" "_law_acts_fit" s__law_acts_fit a.f__law_acts_fit fd ∧ Binds K fd ["_law_book", "_law_moves"] []
  n__law_asked : Nm K mg "_law_asked" a.f__law_asked
  F__law_asked : ∃ fd, Fun K "_law_asked" "_law_asked" s__law_asked a.f__law_asked fd ∧ Binds K fd ["_law_linked", "_law_book"] []
  n__law_begun : Nm K mg "_law_begun" a.f__law_begun
  F__law_begun : ∃ fd, Fun K "_law_begun" "_law_begun" s__law_begun a.f__law_begun fd ∧ Binds K fd ["_law_bag_here", "_law_linked", "_law_book"] []
  n_law : Nm K mg "law" a.f_law
  F_law : ∃ fd, Fun K "law" "law" s_law a.f_law fd ∧ Binds K fd ["_law_script"] []
  c_Links : mg "Links" = some (.ref a.Links)
  cl_Links : Cls K a.Links
  mk_Links : Mk K a.Links a.f_Links___init__
  rd_Links : ClX.CRead K a.Links (.type "type")
  na_Links_size : NoAttr K a.Links "size"
  na_Links__lefts : NoAttr K a.Links "_lefts"
  na_Links__rights : NoAttr K a.Links "_rights"
  na_Links__flags : NoAttr K a.Links "_flags"
  cv_Links_MOST : ∃ t, ClX.CVal K a.Links (.type "type") "MOST" (.int 60) (.int 60 t)
  F_Links___init__ : ∃ fd, Fun K "__init__" "Links.__init__" s_Links___init__ a.f_Links___init__ fd ∧ Binds K fd ["self", "size"] []
  st_Links_built : ∃ p, CSta K a.Links "built" p a.f_Links_built
  F_Links_built : ∃ fd, Fun K "built" "Links.built" s_Links_built a.f_Links_built fd ∧ Binds K fd ["size", "lefts", "rights", "flags"] []
  st_Links_read : ∃ p, CSta K a.Links "read" p a.f_Links_read
  F_Links_read : ∃ fd, Fun K "read" "Links.read" s_Links_read a.f_Links_read fd ∧ Binds K fd ["text"] []
  me_Links_left : Meth K a.Links "left" a.f_Links_left
  F_Links_left : ∃ fd, Fun K "left" "Links.left" s_Links_left a.f_Links_left fd ∧ Binds K fd ["self", "node"] []
  me_Links_right : Meth K a.Links "right" a.f_Links_right
  F_Links_right : ∃ fd, Fun K "right" "Links.right" s_Links_right a.f_Links_right fd ∧ Binds K fd ["self", "node"] []
  me_Links_is_out : Meth K a.Links "is_out" a.f_Links_is_out
  F_Links_is_out : ∃ fd, Fun K "is_out" "Links.is_out" s_Links_is_out a.f_Links_is_out fd ∧ Binds K fd ["self", "node"] []
  me_Links_operation_on : Meth K a.Links "operation_on" a.f_Links_operation_on
  F_Links_operation_on : ∃ fd, Fun K "operation_on" "Links.operation_on" s_Links_operation_on a.f_Links_operation_on fd ∧ Binds K fd ["self", "node"] []
  me_Links_apply : Meth K a.Links "apply" a.f_Links_apply
  F_Links_apply : ∃ fd, Fun K "apply" "Links.apply" s_Links_apply a.f_Links_apply fd ∧ Binds K fd ["self", "operation"] []
  me_Links_apply_at : Meth K a.Links "apply_at" a.f_Links_apply_at
  F_Links_apply_at : ∃ fd, Fun K "apply_at" "Links.apply_at" s_Links_apply_at a.f_Links_apply_at fd ∧ Binds K fd ["self", "operation", "index"] []
  me_Links_copy : Meth K a.Links "copy" a.f_Links_copy
  F_Links_copy : ∃ fd, Fun K "copy" "Links.copy" s_Links_copy a.f_Links_copy fd ∧ Binds K fd ["self"] []
  me_Links_dump : Meth K a.Links "dump" a.f_Links_dump
  F_Links_dump : ∃ fd, Fun K "dump" "Links.dump" s_Links_dump a.f_Links_dump fd ∧ Binds K fd ["self"] []
  me_Links__dump_parts : Meth K a.Links "_dump_parts" a.f_Links__dump_parts
  F_Links__dump_parts : ∃ fd, Fun K "_dump_parts" "Links._dump_parts" s_Links__dump_parts a.f_Links__dump_parts fd ∧ Binds K fd ["self"] []
  c_LinkError : mg "LinkError" = some (.ref a.LinkError)
  c_LogError : mg "LogError" = some (.ref a.LogError)
  c_BadOperation : mg "BadOperation" = some (.ref a.BadOperation)
  x_BadOperation : LkX.ExcTxt P K a.BadOperation a.i_BadOperation ["operation", "index"]
  e_BadOperation : ExcC K a.BadOperation ∧ XfC K a.BadOperation
  c_Illegal : mg "Illegal" = some (.ref a.Illegal)
  x_Illegal : LkX.ExcTxt P K a.Illegal a.i_Illegal ["operation", "index"]
  e_Illegal : ExcC K a.Illegal ∧ XfC K a.Illegal
  c_BadSize : mg "BadSize" = some (.ref a.BadSize)
  x_BadSize : LkX.ExcTxt P K a.BadSize a.i_BadSize ["size"]
  e_BadSize : ExcC K a.BadSize ∧ XfC K a.BadSize
  c_BadNode : mg "BadNode" = some (.ref a.BadNode)
  x_BadNode : LkX.ExcTxt P K a.BadNode a.i_BadNode ["node"]
  e_BadNode : ExcC K a.BadNode ∧ XfC K a.BadNode
  c_BadGap : mg "BadGap" = some (.ref a.BadGap)
  x_BadGap : LkX.ExcTxt P K a.BadGap a.i_BadGap ["gap"]
  e_BadGap : ExcC K a.BadGap ∧ XfC K a.BadGap
  c_BadDump : mg "BadDump" = some (.ref a.BadDump)
  x_BadDump : LkX.ExcTxt P K a.BadDump a.i_BadDump ["part"]
  e_BadDump : ExcC K a.BadDump ∧ XfC K a.BadDump
  c_NotRepairable : mg "NotRepairable" = some (.ref a.NotRepairable)
  x_NotRepairable : LkX.ExcTxt P K a.NotRepairable a.i_NotRepairable ["gap"]
  e_NotRepairable : ExcC K a.NotRepairable ∧ XfC K a.NotRepairable
  t_BadOperation_LinkError : PySem.W.kitOne K (.ref a.BadOperation) (.ref a.LinkError) = some true ∧ PySem.W.exmOne K (.ref a.BadOperation) (.ref a.LinkError) = some true
  t_BadOperation_LogError : PySem.W.kitOne K (.ref a.BadOperation) (.ref a.LogError) = some true ∧ PySem.W.exmOne K (.ref a.BadOperation) (.ref a.LogError) = some true
  t_BadOperation_BadOperation : PySem.W.kitOne K (.ref a.BadOperation) (.ref a.BadOperation) = some true ∧ PySem.W.exmOne K (.ref a.BadOperation) (.ref a.BadOperation) = some true
  t_BadOperation_Illegal : PySem.W.kitOne K (.ref a.BadOperation) (.ref a.Illegal) = some false ∧ PySem.W.exmOne K (.ref a.BadOperation) (.ref a.Illegal) = some false
  t_BadOperation_BadSize : PySem.W.kitOne K (.ref a.BadOperation) (.ref a.BadSize) = some false ∧ PySem.W.exmOne K (.ref a.BadOperation) (.ref a.BadSize) = some false
  t_BadOperation_BadNode : PySem.W.kitOne K (.ref a.BadOperation) (.ref a.BadNode) = some false ∧ PySem.W.exmOne K (.ref a.BadOperation) (.ref a.BadNode) = some false
  t_BadOperation_BadGap : PySem.W.kitOne K (.ref a.BadOperation) (.ref a.BadGap) = some false ∧ PySem.W.exmOne K (.ref a.BadOperation) (.ref a.BadGap) = some false
  t_BadOperation_BadDump : PySem.W.kitOne K (.ref a.BadOperation) (.ref a.BadDump) = some false ∧ PySem.W.exmOne K (.ref a.BadOperation) (.ref a.BadDump) = some false
  t_BadOperation_NotRepairable : PySem.W.kitOne K (.ref a.BadOperation) (.ref a.NotRepairable) = some false ∧ PySem.W.exmOne K (.ref a.BadOperation) (.ref a.NotRepairable) = some false
  v_BadOperation : PySem.W.kitOne K (.ref a.BadOperation) (.type "ValueError") = some true
  t_Illegal_LinkError : PySem.W.kitOne K (.ref a.Illegal) (.ref a.LinkError) = some true ∧ PySem.W.exmOne K (.ref a.Illegal) (.ref a.LinkError) = some true
  t_Illegal_LogError : PySem.W.kitOne K (.ref a.Illegal) (.ref a.LogError) = some true ∧ PySem.W.exmOne K (.ref a.Illegal) (.ref a.LogError) = some true
  t_Illegal_BadOperation : PySem.W.kitOne K (.ref a.Illegal) (.ref a.BadOperation) = some false ∧ PySem.W.exmOne K (.ref a.Illegal) (.ref a.BadOperation) = some false
  t_Illegal_Illegal : PySem.W.kitOne K (.ref a.Illegal) (.ref a.Illegal) = some true ∧ PySem.W.exmOne K (.ref a.Illegal) (.ref a.Illegal) = some true
  t_Illegal_BadSize : PySem.W.kitOne K (.ref a.Illegal) (.ref a.BadSize) = some false ∧ PySem.W.exmOne K (.ref a.Illegal) (.ref a.BadSize) = some false
  t_Illegal_BadNode : PySem.W.kitOne K (.ref a.Illegal) (.ref a.BadNode) = some false ∧ PySem.W.exmOne K (.ref a.Illegal) (.ref a.BadNode) = some false
  t_Illegal_BadGap : PySem.W.kitOne K (.ref a.Illegal) (.ref a.BadGap) = some false ∧ PySem.W.exmOne K (.ref a.Illegal) (.ref a.BadGap) = some false
  t_Illegal_BadDump : PySem.W.kitOne K (.ref a.Illegal) (.ref a.BadDump) = some false ∧ PySem.W.exmOne K (.ref a.Illegal) (.ref a.BadDump) = some false
  t_Illegal_NotRepairable : PySem.W.kitOne K (.ref a.Illegal) (.ref a.NotRepairable) = some false ∧ PySem.W.exmOne K (.ref a.Illegal) (.ref a.NotRepairable) = some false
  v_Illegal : PySem.W.kitOne K (.ref a.Illegal) (.type "ValueError") = some true
  t_BadSize_LinkError : PySem.W.kitOne K (.ref a.BadSize) (.ref a.LinkError) = some true ∧ PySem.W.exmOne K (.ref a.BadSize) (.ref a.LinkError) = some true
  t_BadSize_LogError : PySem.W.kitOne K (.ref a.BadSize) (.ref a.LogError) = some false ∧ PySem.W.exmOne K (.ref a.BadSize) (.ref a.LogError) = some false
  t_BadSize_BadOperation : PySem.W.kitOne K (.ref a.BadSize) (.ref a.BadOperation) = some false ∧ PySem.W.exmOne K (.ref a.BadSize) (.ref a.BadOperation) = some false
  t_BadSize_Illegal : PySem.W.kitOne K (.ref a.BadSize) (.ref a.Illegal) = some false ∧ PySem.W.exmOne K (.ref a.BadSize) (.ref a.Illegal) = some false
  t_BadSize_BadSize : PySem.W.kitOne K (.ref a.BadSize) (.ref a.BadSize) = some true ∧ PySem.W.exmOne K (.ref a.BadSize) (.ref a.BadSize) = some true
  t_BadSize_BadNode : PySem.W.kitOne K (.ref a.BadSize) (.ref a.BadNode) = some false ∧ PySem.W.exmOne K (.ref a.BadSize) (.ref a.BadNode) = some false
  t_BadSize_BadGap : PySem.W.kitOne K (.ref a.BadSize) (.ref a.BadGap) = some false ∧ PySem.W.exmOne K (.ref a.BadSize) (.ref a.BadGap) = some false
  t_BadSize_BadDump : PySem.W.kitOne K (.ref a.BadSize) (.ref a.BadDump) = some false ∧ PySem.W.exmOne K (.ref a.BadSize) (.ref a.BadDump) = some false
  t_BadSize_NotRepairable : PySem.W.kitOne K (.ref a.BadSize) (.ref a.NotRepairable) = some false ∧ PySem.W.exmOne K (.ref a.BadSize) (.ref a.NotRepairable) = some false
  v_BadSize : PySem.W.kitOne K (.ref a.BadSize) (.type "ValueError") = some true
  t_BadNode_LinkError : PySem.W.kitOne K (.ref a.BadNode) (.ref a.LinkError) = some true ∧ PySem.W.exmOne K (.ref a.BadNode) (.ref a.LinkError) = some true
  t_BadNode_LogError : PySem.W.kitOne K (.ref a.BadNode) (.ref a.LogError) = some false ∧ PySem.W.exmOne K (.ref a.BadNode) (.ref a.LogError) = some false
  t_BadNode_BadOperation : PySem.W.kitOne K (.ref a.BadNode) (.ref a.BadOperation) = some false ∧ PySem.W.exmOne K (.ref a.BadNode) (.ref a.BadOperation) = some false
  t_BadNode_Illegal : PySem.W.kitOne K (.ref a.BadNode) (.ref a.Illegal) = some false ∧ PySem.W.exmOne K (.ref a.BadNode) (.ref a.Illegal) = some false
  t_BadNode_BadSize : PySem.W.kitOne K (.ref a.BadNode) (.ref a.BadSize) = some false ∧ PySem.W.exmOne K (.ref a.BadNode) (.ref a.BadSize) = some false
  t_BadNode_BadNode : PySem.W.kitOne K (.ref a.BadNode) (.ref a.BadNode) = some true ∧ PySem.W.exmOne K (.ref a.BadNode) (.ref a.BadNode) = some true
  t_BadNode_BadGap : PySem.W.kitOne K (.ref a.BadNode) (.ref a.BadGap) = some false ∧ PySem.W.exmOne K (.ref a.BadNode) (.ref a.BadGap) = some false
  t_BadNode_BadDump : PySem.W.kitOne K (.ref a.BadNode) (.ref a.BadDump) = some false ∧ PySem.W.exmOne K (.ref a.BadNode) (.ref a.BadDump) = some false
  t_BadNode_NotRepairable : PySem.W.kitOne K (.ref a.BadNode) (.ref a.NotRepairable) = some false ∧ PySem.W.exmOne K (.ref a.BadNode) (.ref a.NotRepairable) = some false
  v_BadNode : PySem.W.kitOne K (.ref a.BadNode) (.type "ValueError") = some true
  t_BadGap_LinkError : PySem.W.kitOne K (.ref a.BadGap) (.ref a.LinkError) = some true ∧ PySem.W.exmOne K (.ref a.BadGap) (.ref a.LinkError) = some true
  t_BadGap_LogError : PySem.W.kitOne K (.ref a.BadGap) (.ref a.LogError) = some false ∧ PySem.W.exmOne K (.ref a.BadGap) (.ref a.LogError) = some false
  t_BadGap_BadOperation : PySem.W.kitOne K (.ref a.BadGap) (.ref a.BadOperation) = some false ∧ PySem.W.exmOne K (.ref a.BadGap) (.ref a.BadOperation) = some false
  t_BadGap_Illegal : PySem.W.kitOne K (.ref a.BadGap) (.ref a.Illegal) = some false ∧ PySem.W.exmOne K (.ref a.BadGap) (.ref a.Illegal) = some false
  t_BadGap_BadSize : PySem.W.kitOne K (.ref a.BadGap) (.ref a.BadSize) = some false ∧ PySem.W.exmOne K (.ref a.BadGap) (.ref a.BadSize) = some false
  t_BadGap_BadNode : PySem.W.kitOne K (.ref a.BadGap) (.ref a.BadNode) = some false ∧ PySem.W.exmOne K (.ref a.BadGap) (.ref a.BadNode) = some false
  t_BadGap_BadGap : PySem.W.kitOne K (.ref a.BadGap) (.ref a.BadGap) = some true ∧ PySem.W.exmOne K (.ref a.BadGap) (.ref a.BadGap) = some true
  t_BadGap_BadDump : PySem.W.kitOne K (.ref a.BadGap) (.ref a.BadDump) = some false ∧ PySem.W.exmOne K (.ref a.BadGap) (.ref a.BadDump) = some false
  t_BadGap_NotRepairable : PySem.W.kitOne K (.ref a.BadGap) (.ref a.NotRepairable) = some false ∧ PySem.W.exmOne K (.ref a.BadGap) (.ref a.NotRepairable) = some false
  v_BadGap : PySem.W.kitOne K (.ref a.BadGap) (.type "ValueError") = some true
  t_BadDump_LinkError : PySem.W.kitOne K (.ref a.BadDump) (.ref a.LinkError) = some true ∧ PySem.W.exmOne K (.ref a.BadDump) (.ref a.LinkError) = some true
  t_BadDump_LogError : PySem.W.kitOne K (.ref a.BadDump) (.ref a.LogError) = some false ∧ PySem.W.exmOne K (.ref a.BadDump) (.ref a.LogError) = some false
  t_BadDump_BadOperation : PySem.W.kitOne K (.ref a.BadDump) (.ref a.BadOperation) = some false ∧ PySem.W.exmOne K (.ref a.BadDump) (.ref a.BadOperation) = some false
  t_BadDump_Illegal : PySem.W.kitOne K (.ref a.BadDump) (.ref a.Illegal) = some false ∧ PySem.W.exmOne K (.ref a.BadDump) (.ref a.Illegal) = some false
  t_BadDump_BadSize : PySem.W.kitOne K (.ref a.BadDump) (.ref a.BadSize) = some false ∧ PySem.W.exmOne K (.ref a.BadDump) (.ref a.BadSize) = some false
  t_BadDump_BadNode : PySem.W.kitOne K (.ref a.BadDump) (.ref a.BadNode) = some false ∧ PySem.W.exmOne K (.ref a.BadDump) (.ref a.BadNode) = some false
  t_BadDump_BadGap : PySem.W.kitOne K (.ref a.BadDump) (.ref a.BadGap) = some false ∧ PySem.W.exmOne K (.ref a.BadDump) (.ref a.BadGap) = some false
  t_BadDump_BadDump : PySem.W.kitOne K (.ref a.BadDump) (.ref a.BadDump) = some true ∧ PySem.W.exmOne K (.ref a.BadDump) (.ref a.BadDump) = some true
  t_BadDump_NotRepairable : PySem.W.kitOne K (.ref a.BadDump) (.ref a.NotRepairable) = some false ∧ PySem.W.exmOne K (.ref a.BadDump) (.ref a.NotRepairable) = some false
  v_BadDump : PySem.W.kitOne K (.ref a.BadDump) (.type "ValueError") = some true
  t_NotRepairable_LinkError : PySem.W.kitOne K (.ref a.NotRepairable) (.ref a.LinkError) = some true ∧ PySem.W.exmOne K (.ref a.NotRepairable) (.ref a.LinkError) = some true
  t_NotRepairable_LogError : PySem.W.kitOne K (.ref a.NotRepairable) (.ref a.LogError) = some false ∧ PySem.W.exmOne K (.ref a.NotRepairable) (.ref a.LogError) = some false
  t_NotRepairable_BadOperation : PySem.W.kitOne K (.ref a.NotRepairable) (.ref a.BadOperation) = some false ∧ PySem.W.exmOne K (.ref a.NotRepairable) (.ref a.BadOperation) = some false
  t_NotRepairable_Illegal : PySem.W.kitOne K (.ref a.NotRepairable) (.ref a.Illegal) = some false ∧ PySem.W.exmOne K (.ref a.NotRepairable) (.ref a.Illegal) = some false
  t_NotRepairable_BadSize : PySem.W.kitOne K (.ref a.NotRepairable) (.ref a.BadSize) = some false ∧ PySem.W.exmOne K (.ref a.NotRepairable) (.ref a.BadSize) = some false
  t_NotRepairable_BadNode : PySem.W.kitOne K (.ref a.NotRepairable) (.ref a.BadNode) = some false ∧ PySem.W.exmOne K (.ref a.NotRepairable) (.ref a.BadNode) = some false
  t_NotRepairable_BadGap : PySem.W.kitOne K (.ref a.NotRepairable) (.ref a.BadGap) = some false ∧ PySem.W.exmOne K (.ref a.NotRepairable) (.ref a.BadGap) = some false
  t_NotRepairable_BadDump : PySem.W.kitOne K (.ref a.NotRepairable) (.ref a.BadDump) = some false ∧ PySem.W.exmOne K (.ref a.NotRepairable) (.ref a.BadDump) = some false
  t_NotRepairable_NotRepairable : PySem.W.kitOne K (.ref a.NotRepairable) (.ref a.NotRepairable) = some true ∧ PySem.W.exmOne K (.ref a.NotRepairable) (.ref a.NotRepairable) = some true
  v_NotRepairable : PySem.W.kitOne K (.ref a.NotRepairable) (.type "ValueError") = some true
  b_ValueError : mg "ValueError" = none
  b_abs : mg "abs" = none
  b_sum : mg "sum" = none
  b_enumerate : mg "enumerate" = none
  b_range : mg "range" = none
  b_list : mg "list" = none
  b_len : mg "len" = none
  b_int : mg "int" = none
  b_isinstance : mg "isinstance" = none
  b_str : mg "str" = none
  b_bool : mg "bool" = none
  b_super : mg "super" = none
  k_MOST_NODES : ∃ t, mg "MOST_NODES" = some (.int 60 t)
  k_MOST_DIGITS : ∃ t, mg "MOST_DIGITS" = some (.int 9 t)
  k_PARTS : ∃ t, mg "PARTS" = some (.int 3 t)
def xBadOperation (a : AD) (v0 : V) (v1 : V) (E : XK) (H : Hp) : Prop := ∀ d H', H d = none → H' d = some (.xd [("operation", v0), ("index", v1)]) → Kp [] H H' → E (.ref a.BadOperation) (some d) H'
def xIllegal (a : AD) (v0 : V) (v1 : V) (E : XK) (H : Hp) : Prop := ∀ d H', H d = none → H' d = some (.xd [("operation", v0), ("index", v1)]) → Kp [] H H' → E (.ref a.Illegal) (some d) H'
def xBadSize (a : AD) (v0 : V) (E : XK) (H : Hp) : Prop := ∀ d H', H d = none → H' d = some (.xd [("size", v0)]) → Kp [] H H' → E (.ref a.BadSize) (some d) H'
def xBadNode (a : AD) (v0 : V) (E : XK) (H : Hp) : Prop := ∀ d H', H d = none → H' d = some (.xd [("node", v0)]) → Kp [] H H' → E (.ref a.BadNode) (some d) H'
def xBadGap (a : AD) (v0 : V) (E : XK) (H : Hp) : Prop := ∀ d H', H d = none → H' d = some (.xd [("gap", v0)]) → Kp [] H H' → E (.ref a.BadGap) (some d) H'
def xBadDump (a : AD) (v0 : V) (E : XK) (H : Hp) : Prop := ∀ d H', H d = none → H' d = some (.xd [("part", v0)]) → Kp [] H H' → E (.ref a.BadDump) (some d) H'
def xNotRepairable (a : AD) (v0 : V) (E : XK) (H : Hp) : Prop := ∀ d H', H d = none → H' d = some (.xd [("gap", v0)]) → Kp [] H H' → E (.ref a.NotRepairable) (some d) H'
local macro_rules | `(tactic| walk_at "ef") => `(tactic| with_reducible first | exact (Txt.e_BadOperation (by assumption)).1 | exact (Txt.e_BadOperation (by assumption)).2 | exact (Txt.e_Illegal (by assumption)).1 | exact (Txt.e_Illegal (by assumption)).2 | exact (Txt.e_BadSize (by assumption)).1 | exact (Txt.e_BadSize (by assumption)).2 | exact (Txt.e_BadNode (by assumption)).1 | exact (Txt.e_BadNode (by assumption)).2 | exact (Txt.e_BadGap (by assumption)).1 | exact (Txt.e_BadGap (by assumption)).2 | exact (Txt.e_BadDump (by assumption)).1 | exact (Txt.e_BadDump (by assumption)).2 | exact (Txt.e_NotRepairable (by assumption)).1 | exact (Txt.e_NotRepairable (by assumption)).2)
local macro_rules | `(tactic| walk_at "et") => `(tactic| with_reducible first | exact Txt.v_BadOperation (by assumption) | exact (Txt.t_BadOperation_LinkError (by assumption)).1 | exact (Txt.t_BadOperation_LogError (by assumption)).1 | exact (Txt.t_BadOperation_BadOperation (by assumption)).1 | exact (Txt.t_BadOperation_Illegal (by assumption)).1 | exact (Txt.t_BadOperation_BadSize (by assumption)).1 | exact (Txt.t_BadOperation_BadNode (by assumption)).1 | exact (Txt.t_BadOperation_BadGap (by assumption)).1 | exact (Txt.t_BadOperation_BadDump (by assumption)).1 | exact (Txt.t_BadOperation_NotRepairable (by assumption)).1 | exact Txt.v_Illegal (by assumption) | exact (Txt.t_Illegal_LinkError (by assumption)).1 | exact (Txt.t_Illegal_LogError (by assumption)).1 | exact (Txt.t_Illegal_BadOperation (by assumption)).1 | exact (Txt.t_Illegal_Illegal (by assumption)).1 | exact (Txt.t_Illegal_BadSize (by assumption)).1 | exact (Txt.t_Illegal_BadNode (by assumption)).1 | exact (Txt.t_Illegal_BadGap (by assumption)).1 | exact (Txt.t_Illegal_BadDump (by assumption)).1 | exact (Txt.t_Illegal_NotRepairable (by assumption)).1 | exact Txt.v_BadSize (by assumption) | exact (Txt.t_BadSize_LinkError (by assumption)).1 | exact (Txt.t_BadSize_LogError (by assumption)).1 | exact (Txt.t_BadSize_BadOperation (by assumption)).1 | exact (Txt.t_BadSize_Illegal (by assumption)).1 | exact (Txt.t_BadSize_BadSize (by assumption)).1 | exact (Txt.t_BadSize_BadNode (by assumption)).1 | exact (Txt.t_BadSize_BadGap (by assumption)).1 | exact (Txt.t_BadSize_BadDump (by assumption)).1 | exact (Txt.t_BadSize_NotRepairable (by assumption)).1 | exact Txt.v_BadNode (by assumption) | exact (Txt.t_BadNode_LinkError (by assumption)).1 | exact (Txt.t_BadNode_LogError (by assumption)).1 | exact (Txt.t_BadNode_BadOperation (by assumption)).1 | exact (Txt.t_BadNode_Illegal (by assumption)).1 | exact (Txt.t_BadNode_BadSize (by assumption)).1 | exact (Txt.t_BadNode_BadNode (by assumption)).1 | exact (Txt.t_BadNode_BadGap (by assumption)).1 | exact (Txt.t_BadNode_BadDump (by assumption)).1 | exact (Txt.t_BadNode_NotRepairable (by assumption)).1 | exact Txt.v_BadGap (by assumption) | exact (Txt.t_BadGap_LinkError (by assumption)).1 | exact (Txt.t_BadGap_LogError (by assumption)).1 | exact (Txt.t_BadGap_BadOperation (by assumption)).1 | exact (Txt.t_BadGap_Illegal (by assumption)).1 | exact (Txt.t_BadGap_BadSize (by assumption)).1 | exact (Txt.t_BadGap_BadNode (by assumption)).1 | exact (Txt.t_BadGap_BadGap (by assumption)).1 | exact (Txt.t_BadGap_BadDump (by assumption)).1 | exact (Txt.t_BadGap_NotRepairable (by assumption)).1 | exact Txt.v_BadDump (by assumption) | exact (Txt.t_BadDump_LinkError (by assumption)).1 | exact (Txt.t_BadDump_LogError (by assumption)).1 | exact (Txt.t_BadDump_BadOperation (by assumption)).1 | exact (Txt.t_BadDump_Illegal (by assumption)).1 | exact (Txt.t_BadDump_BadSize (by assumption)).1 | exact (Txt.t_BadDump_BadNode (by assumption)).1 | exact (Txt.t_BadDump_BadGap (by assumption)).1 | exact (Txt.t_BadDump_BadDump (by assumption)).1 | exact (Txt.t_BadDump_NotRepairable (by assumption)).1 | exact Txt.v_NotRepairable (by assumption) | exact (Txt.t_NotRepairable_LinkError (by assumption)).1 | exact (Txt.t_NotRepairable_LogError (by assumption)).1 | exact (Txt.t_NotRepairable_BadOperation (by assumption)).1 | exact (Txt.t_NotRepairable_Illegal (by assumption)).1 | exact (Txt.t_NotRepairable_BadSize (by assumption)).1 | exact (Txt.t_NotRepairable_BadNode (by assumption)).1 | exact (Txt.t_NotRepairable_BadGap (by assumption)).1 | exact (Txt.t_NotRepairable_BadDump (by assumption)).1 | exact (Txt.t_NotRepairable_NotRepairable (by assumption)).1)
local macro_rules | `(tactic| walk_at "fi") => `(tactic| with_reducible first | exact (Txt.x_BadOperation (by assumption)).noN _ (by decide) | exact (Txt.x_Illegal (by assumption)).noN _ (by decide) | exact (Txt.x_BadSize (by assumption)).noN _ (by decide) | exact (Txt.x_BadNode (by assumption)).noN _ (by decide) | exact (Txt.x_BadGap (by assumption)).noN _ (by decide) | exact (Txt.x_BadDump (by assumption)).noN _ (by decide) | exact (Txt.x_NotRepairable (by assumption)).noN _ (by decide))
local macro_rules | `(tactic| walk_at "cl") => `(tactic| with_reducible first | exact Txt.cl_Links (by assumption))
local macro_rules | `(tactic| walk_at "na") => `(tactic| with_reducible first | exact Txt.na_Links_size (by assumption) | exact Txt.na_Links__lefts (by assumption) | exact Txt.na_Links__rights (by assumption) | exact Txt.na_Links__flags (by assumption))
local macro_rules | `(tactic| walk_at "rd") => `(tactic| with_reducible first | exact Txt.rd_Links (by assumption))
local macro_rules | `(tactic| walk_at "cv") => `(tactic| with_reducible first | exact (Txt.cv_Links_MOST (by assumption)).choose_spec)
/-! ### what the checks ask -/
def IsOp (n o : Int) : Prop := o ≠ 0 ∧ (o.natAbs : Int) ≤ n
instance (n o : Int) : Decidable (IsOp n o) := inferInstanceAs (Decidable (_ ∧ _))
def sp_check_size (a : AD) : Sp := fun vs H Q E => ∃ n : Int, vs = [.int n] ∧ (¬(0 ≤ n ∧ n ≤ 60) → xBadSize a (.int n) E H) ∧ (0 ≤ n → n ≤ 60 → Q .non H)
def sp_check_operation (a : AD) : Sp := fun vs H Q E => ∃ n o i : Int, vs = [.int n, .int o, .int i] ∧ (¬IsOp n o → xBadOperation a (.int o) (.int i) E H) ∧ (IsOp n o → Q .non H)
theorem sc_check_size : FnScope ["size"] ["size"] (defScope s_check_size) := ⟨rfl, rfl, rfl, by decide +kernel, rfl, by decide +kernel, by decide +kernel⟩
theorem ok_check_size {P : Program} {w : World} {K : PySem.W.Frag} {mg : Str → Option Value} {base : Heap} {a : AD} (T : Txt P K mg a) : FnA P w K mg base 2 a.f_check_size ["size"] (sp_check_size a) := by
  obtain ⟨fd, F, b⟩ := T.F_check_size
  refine FnA.of F sc_check_size b (fun vs H Q E h => by first | (obtain ⟨rfl, _⟩ := h; rfl) | (obtain ⟨_, rfl, _⟩ := h; rfl) | (obtain ⟨_, _, rfl, _⟩ := h; rfl) | (obtain ⟨_, _, _, rfl, _⟩ := h; rfl) | (obtain ⟨_, _, _, _, rfl, _⟩ := h; rfl) | (obtain ⟨_, _, _, _, _, rfl, _⟩ := h; rfl) | (obtain ⟨_, _, _, _, _, _, rfl, _⟩ := h; rfl) | (obtain ⟨_, _, _, _, _, _, _, rfl, _⟩ := h; rfl) | (obtain ⟨_, _, _, _, _, _, _, _, rfl, _⟩ := h; rfl) | (obtain ⟨_, _, _, _, _, _, _, _, _, rfl, _⟩ := h; rfl) | (obtain ⟨_, _, _, _, _, _, _, _, _, _, rfl, _⟩ := h; rfl) | (obtain ⟨_, _, _, _, _, _, _, _, _, _, _, rfl, _⟩ := h; rfl) | (obtain ⟨_, _, _, _, _, _, _, _, _, _, _, _, rfl, _⟩ := h; rfl) | (obtain ⟨_, _, _, _, _, _, _, _, _, _, _, _, _, rfl, _⟩ := h; rfl) | (obtain ⟨_, _, _, _, _, _, _, _, _, _, _, _, _, _, rfl, _⟩ := h; rfl) | (obtain ⟨_, _, _, _, _, _, _, _, _, _, _, _, _, _, _, rfl, _⟩ := h; rfl) | (obtain ⟨_, _, _, _, _, _, _, _, _, _, _, _, _, _, _, _, rfl, _⟩ := h; rfl) | (obtain ⟨_, _, _, _, _, _, _, _, _, _, _, _, _, _, _, _, _, rfl, _⟩ := h; rfl) | (obtain ⟨_, _, _, _, _, _, _, _, _, _, _, _, _, _, _, _, _, _, rfl, _⟩ := h; rfl) | (obtain ⟨_, _, _, _, _, _, _, _, _, _, _, _, _, _, _, _, _, _, _, rfl, _⟩ := h; rfl) | (obtain ⟨_, _, _, _, _, _, _, _, _, _, _, _, _, _, _, _, _, _, _, _, rfl, _⟩ := h; rfl) | (obtain ⟨_, _, _, _, _, _, _, _, _, _, _, _, _, _, _, _, _, _, _, _, _, rfl, _⟩ := h; rfl) | (obtain ⟨_, _, _, _, _, _, _, _, _, _, _, _, _, _, _, _, _, _, _, _, _, _, rfl, _⟩ := h; rfl) | (obtain ⟨_, _, _, _, _, _, _, _, _, _, _, _, _, _, _, _, _, _, _, _, _, _, _, rfl, _⟩ := h; rfl)) (fun cdv A outer s H vs Q E hr tk pz h => ?_)
  have hu := hr.units
  have hrH := L2H.roomH_of hr
  obtain ⟨n, rfl, h1, h2⟩ := h
  refine ⟨_, (pss_one (ps_if (pt_not (pt_chainA op_le op_le pe_int (pv 0) (T.k_MOST_NODES.elim fun t hm => pe_glob (v := .int 60) rfl hm ⟨t, rfl⟩))) (pss_one (L2N.ps_raise rfl tk (Lk.pmk_own T.x_BadSize (List.cons_ne_nil _ _) hr T.c_BadSize (by exact (pa_cons (pv 0) pa_nil)) rfl))) pss_nil)), ?_⟩
  show (_ : Ends → L2.St → Hp → Prop) _ [some _] _
  try dsimp only [L2H.cxH, cxOf]
  walk_at "w"
  refine w_ite (fun c1 => ?_) (fun c1 => ?_)
  · walk_at "w"
    refine w_iteN (fun c2 => ?_) (fun c2 => ?_)
    · walk_at "w"
      refine ⟨rfl, fun d hd => h1 (fun z => c2 z.2) d _ hd upd_same (Kp.refl.new hd)⟩
    · walk_at "w"
      exact h2 c1 c2
  · walk_at "w"
    refine ⟨rfl, fun d hd => h1 (fun z => c1 z.1) d _ hd upd_same (Kp.refl.new hd)⟩
theorem sc_check_operation : FnScope ["size", "operation", "index"] ["size", "operation", "index"] (defScope s_check_operation) := ⟨rfl, rfl, rfl, by decide +kernel, rfl, by decide +kernel, by decide +kernel⟩
theorem ok_check_operation {P : Program} {w : World} {K : PySem.W.Frag} {mg : Str → Option Value} {base : Heap} {a : AD} (T : Txt P K mg a) : FnA P w K mg base 2 a.f_check_operation ["size", "operation", "index"] (sp_check_operation a) := by
  obtain ⟨fd, F, b⟩ := T.F_check_operation
  refine FnA.of F sc_check_operation b (fun vs H Q E h => by first | (obtain ⟨rfl, _⟩ := h; rfl) | (obtain ⟨_, rfl, _⟩ := h; rfl) | (obtain ⟨_, _, rfl, _⟩ := h; rfl) | (obtain ⟨_, _, _, rfl, _⟩ := h; rfl) | (obtain ⟨_, _, _, _, rfl, _⟩ := h; rfl) | (obtain ⟨_, _, _, _, _, rfl, _⟩ := h; rfl) | (obtain ⟨_, _, _, _, _, _, rfl, _⟩ := h; rfl) | (obtain ⟨_, _, _, _, _, _, _, rfl, _⟩ := h; rfl) | (obtain ⟨_, _, _, _, _, _, _, _, rfl, _⟩ := h; rfl) | (obtain ⟨_, _, _, _, _, _, _, _, _, rfl, _⟩ := h; rfl) | (obtain ⟨_, _, _, _, _, _, _, _, _, _, rfl, _⟩ := h; rfl) | (obtain ⟨_, _, _, _, _, _, _, _, _, _, _, rfl, _⟩ := h; rfl) | (obtain ⟨_, _, _, _, _, _, _, _, _, _, _, _, rfl, _⟩ := h; rfl) | (obtain ⟨_, _, _, _, _, _, _, _, _, _, _, _, _, rfl, _⟩ := h; rfl) | (obtain ⟨_, _, _, _, _, _, _, _, _, _, _, _, _, _, rfl, _⟩ := h; rfl) | (obtain ⟨_, _, _, _, _, _, _, _, _, _, _, _, _, _, _, rfl, _⟩ := h; rfl) | (obtain ⟨_, _, _, _, _, _, _, _, _, _, _, _, _, _, _, _, rfl, _⟩ := h; rfl) | (obtain ⟨_, _, _, _, _, _, _, _, _, _, _, _, _, _, _, _, _, rfl, _⟩ := h; rfl) | (obtain ⟨_, _, _, _, _, _, _, _, _, _, _, _, _, _, _, _, _, _, rfl, _⟩ := h; rfl) | (obtain ⟨_, _, _, _, _, _, _, _, _, _, _, _, _, _, _, _, _, _, _, rfl, _⟩ := h; rfl) | (obtain ⟨_, _, _, _, _, _, _, _, _, _, _, _, _, _, _, _, _, _, _, _, rfl, _⟩ := h; rfl) | (obtain ⟨_, _, _, _, _, _, _, _, _, _, _, _, _, _, _, _, _, _, _, _, _, rfl, _⟩ := h; rfl) | (obtain ⟨_, _, _, _, _, _, _, _, _, _, _, _, _, _, _, _, _, _, _, _, _, _, rfl, _⟩ := h; rfl) | (obtain ⟨_, _, _, _, _, _, _, _, _, _, _, _, _, _, _, _, _, _, _, _, _, _, _, rfl, _⟩ := h; rfl)) (fun cdv A outer s H vs Q E hr tk pz h => ?_)
  have hu := hr.units
  have hrH := L2H.roomH_of hr
  obtain ⟨n, o, i, rfl, h1, h2⟩ := h
  refine ⟨_, (pss_one (ps_if (PW.pt (pw_or (pt_cmpA (o_eq hu) (pv 1) pe_int (nomark _)) (pw_or1 (pt_cmpA op_gt (pe_callB (b_abs) rfl T.b_abs (by decide +kernel) (pa_cons (pv 1) pa_nil)) (pv 0) (nomark _))))) (pss_one (L2N.ps_raise rfl tk (Lk.pmk_own T.x_BadOperation (List.cons_ne_nil _ _) hr T.c_BadOperation (by exact (pa_cons (pv 1) (pa_cons (pv 2) pa_nil))) rfl))) pss_nil)), ?_⟩
  show (_ : Ends → L2.St → Hp → Prop) _ [some _, some _, some _] _
  try dsimp only [L2H.cxH, cxOf]
  walk_at "w"
  refine w_ite (fun c1 => ?_) (fun c1 => ?_)
  · walk_at "w"
    refine ⟨rfl, fun d hd => h1 (fun z => z.1 c1) d _ hd upd_same (Kp.refl.new hd)⟩
  · walk_at "w"
    refine w_ite (fun c2 => ?_) (fun c2 => ?_)
    · walk_at "w"
      refine ⟨rfl, fun d hd => h1 (fun z => by have := z.2; omega) d _ hd upd_same (Kp.refl.new hd)⟩
    · walk_at "w"
      exact h2 ⟨c1, by omega⟩
def sp_check_gap (a : AD) : Sp := fun vs H Q E => ∃ n g : Int, vs = [.int n, .int g] ∧ (¬(0 ≤ g ∧ g ≤ n) → xBadGap a (.int g) E H) ∧ (0 ≤ g → g ≤ n → Q .non H)
theorem sc_check_gap : FnScope ["size", "gap"] ["size", "gap"] (defScope s_check_gap) := ⟨rfl, rfl, rfl, by decide +kernel, rfl, by decide +kernel, by decide +kernel⟩
theorem ok_check_gap {P : Program} {w : World} {K : PySem.W.Frag} {mg : Str → Option Value} {base : Heap} {a : AD} (T : Txt P K mg a) : FnA P w K mg base 2 a.f_check_gap ["size", "gap"] (sp_check_gap a) := by
  obtain ⟨fd, F, b⟩ := T.F_check_gap
  refine FnA.of F sc_check_gap b (fun vs H Q E h => by first | (obtain ⟨rfl, _⟩ := h; rfl) | (obtain ⟨_, rfl, _⟩ := h; rfl) | (obtain ⟨_, _, rfl, _⟩ := h; rfl) | (obtain ⟨_, _, _, rfl, _⟩ := h; rfl) | (obtain ⟨_, _, _, _, rfl, _⟩ := h; rfl) | (obtain ⟨_, _, _, _, _, rfl, _⟩ := h; rfl) | (obtain ⟨_, _, _, _, _, _, rfl, _⟩ := h; rfl) | (obtain ⟨_, _, _, _, _, _, _, rfl, _⟩ := h; rfl) | (obtain ⟨_, _, _, _, _, _, _, _, rfl, _⟩ := h; rfl) | (obtain ⟨_, _, _, _, _, _, _, _, _, rfl, _⟩ := h; rfl) | (obtain ⟨_, _, _, _, _, _, _, _, _, _, rfl, _⟩ := h; rfl) | (obtain ⟨_, _, _, _, _, _, _, _, _, _, _, rfl, _⟩ := h; rfl) | (obtain ⟨_, _, _, _, _, _, _, _, _, _, _, _, rfl, _⟩ := h; rfl) | (obtain ⟨_, _, _, _, _, _, _, _, _, _, _, _, _, rfl, _⟩ := h; rfl) | (obtain ⟨_, _, _, _, _, _, _, _, _, _, _, _, _, _, rfl, _⟩ := h; rfl) | (obtain ⟨_, _, _, _, _, _, _, _, _, _, _, _, _, _, _, rfl, _⟩ := h; rfl) | (obtain ⟨_, _, _, _, _, _, _, _, _, _, _, _, _, _, _, _, rfl, _⟩ := h; rfl) | (obtain ⟨_, _, _, _, _, _, _, _, _, _, _, _, _, _, _, _, _, rfl, _⟩ := h; rfl) | (obtain ⟨_, _, _, _, _, _, _, _, _, _, _, _, _, _, _, _, _, _, rfl, _⟩ := h; rfl) | (obtain ⟨_, _, _, _, _, _, _, _, _, _, _, _, _, _, _, _, _, _, _, rfl, _⟩ := h; rfl) | (obtain ⟨_, _, _, _, _, _, _, _, _, _, _, _, _, _, _, _, _, _, _, _, rfl, _⟩ := h; rfl) | (obtain ⟨_, _, _, _, _, _, _, _, _, _, _, _, _, _, _, _, _, _, _, _, _, rfl, _⟩ := h; rfl) | (obtain ⟨_, _, _, _, _, _, _, _, _, _, _, _, _, _, _, _, _, _, _, _, _, _, rfl, _⟩ := h; rfl) | (obtain ⟨_, _, _, _, _, _, _, _, _, _, _, _, _, _, _, _, _, _, _, _, _, _, _, rfl, _⟩ := h; rfl)) (fun cdv A outer s H vs Q E hr tk pz h => ?_)
  have hu := hr.units
  have hrH := L2H.roomH_of hr
  obtain ⟨n, g, rfl, h1, h2⟩ := h
  refine ⟨_, (pss_one (ps_if (pt_not (pt_chainA op_le op_le pe_int (pv 1) (pv 0))) (pss_one (L2N.ps_raise rfl tk (Lk.pmk_own T.x_BadGap (List.cons_ne_nil _ _) hr T.c_BadGap (by exact (pa_cons (pv 1) pa_nil)) rfl))) pss_nil)), ?_⟩
  show (_ : Ends → L2.St → Hp → Prop) _ [some _, some _] _
  try dsimp only [L2H.cxH, cxOf]
  walk_at "w"
  refine w_ite (fun c1 => ?_) (fun c1 => ?_)
  · walk_at "w"
    refine w_iteN (fun c2 => ?_) (fun c2 => ?_)
    · walk_at "w"
      refine ⟨rfl, fun d hd => h1 (fun z => c2 z.2) d _ hd upd_same (Kp.refl.new hd)⟩
    · walk_at "w"
      exact h2 c1 c2
  · walk_at "w"
    refine ⟨rfl, fun d hd => h1 (fun z => c1 z.1) d _ hd upd_same (Kp.refl.new hd)⟩
/-! ### a Links object -/
/-- the object at x, its three lists at l, r, f -/
def Lnk (a : AD) (H : Hp) (x l r f : Addr) (n : Int) (L R : List Int) (F : List Bool) : Prop :=
  (∃ dx, H x = some (.ins a.Links dx [("size", .int n), ("_lefts", .ref l), ("_rights", .ref r), ("_flags", .ref f)])) ∧ H l = some (.lst (L.map V.int)) ∧ H r = some (.lst (R.map V.int)) ∧ H f = some (.lst (F.map V.bl)) ∧ l ≠ r ∧ l ≠ f ∧ r ≠ f
theorem Lnk.kp {a : AD} {ms : List Addr} {H H' : Hp} {x l r f : Addr} {n : Int} {L R : List Int} {F : List Bool} (h : Lnk a H x l r f n L R F) (k : Kp ms H H') (hx : x ∉ ms) (hl : l ∉ ms) (hr : r ∉ ms) (hf : f ∉ ms) : Lnk a H' x l r f n L R F := by
  obtain ⟨⟨dx, h1⟩, h2, h3, h4, h5⟩ := h
  exact ⟨⟨dx, k.at h1 hx⟩, k.at h2 hl, k.at h3 hr, k.at h4 hf, h5⟩
theorem Lnk.kp0 {a : AD} {H H' : Hp} {x l r f : Addr} {n : Int} {L R : List Int} {F : List Bool} (h : Lnk a H x l r f n L R F) (k : Kp [] H H') : Lnk a H' x l r f n L R F := h.kp k List.not_mem_nil List.not_mem_nil List.not_mem_nil List.not_mem_nil
def sp_Links_left (a : AD) : Sp := fun vs H Q E => ∃ (x l r f : Addr) (n v : Int) (L R : List Int) (F : List Bool), vs = [.ref x, .int v] ∧ Lnk a H x l r f n L R F ∧ L.length = (n + 2).toNat ∧ (¬(1 ≤ v ∧ v ≤ n + 1) → xBadNode a (.int v) E H) ∧ (1 ≤ v → v ≤ n + 1 → Q (.int (L.getD v.toNat default)) H)
theorem sc_Links_left : FnScope ["self", "node"] ["self", "node"] (defScope s_Links_left) := ⟨rfl, rfl, rfl, by decide +kernel, rfl, by decide +kernel, by decide +kernel⟩
theorem ok_Links_left {P : Program} {w : World} {K : PySem.W.Frag} {mg : Str → Option Value} {base : Heap} {a : AD} (T : Txt P K mg a) : FnA P w K mg base 2 a.f_Links_left ["self", "node"] (sp_Links_left a) := by
  obtain ⟨fd, F, b⟩ := T.F_Links_left
  refine FnA.of F sc_Links_left b (fun vs H Q E h => by first | (obtain ⟨rfl, _⟩ := h; rfl) | (obtain ⟨_, rfl, _⟩ := h; rfl) | (obtain ⟨_, _, rfl, _⟩ := h; rfl) | (obtain ⟨_, _, _, rfl, _⟩ := h; rfl) | (obtain ⟨_, _, _, _, rfl, _⟩ := h; rfl) | (obtain ⟨_, _, _, _, _, rfl, _⟩ := h; rfl) | (obtain ⟨_, _, _, _, _, _, rfl, _⟩ := h; rfl) | (obtain ⟨_, _, _, _, _, _, _, rfl, _⟩ := h; rfl) | (obtain ⟨_, _, _, _, _, _, _, _, rfl, _⟩ := h; rfl) | (obtain ⟨_, _, _, _, _, _, _, _, _, rfl, _⟩ := h; rfl) | (obtain ⟨_, _, _, _, _, _, _, _, _, _, rfl, _⟩ := h; rfl) | (obtain ⟨_, _, _, _, _, _, _, _, _, _, _, rfl, _⟩ := h; rfl) | (obtain ⟨_, _, _, _, _, _, _, _, _, _, _, _, rfl, _⟩ := h; rfl) | (obtain ⟨_, _, _, _, _, _, _, _, _, _, _, _, _, rfl, _⟩ := h; rfl) | (obtain ⟨_, _, _, _, _, _, _, _, _, _, _, _, _, _, rfl, _⟩ := h; rfl) | (obtain ⟨_, _, _, _, _, _, _, _, _, _, _, _, _, _, _, rfl, _⟩ := h; rfl) | (obtain ⟨_, _, _, _, _, _, _, _, _, _, _, _, _, _, _, _, rfl, _⟩ := h; rfl) | (obtain ⟨_, _, _, _, _, _, _, _, _, _, _, _, _, _, _, _, _, rfl, _⟩ := h; rfl) | (obtain ⟨_, _, _, _, _, _, _, _, _, _, _, _, _, _, _, _, _, _, rfl, _⟩ := h; rfl) | (obtain ⟨_, _, _, _, _, _, _, _, _, _, _, _, _, _, _, _, _, _, _, rfl, _⟩ := h; rfl) | (obtain ⟨_, _, _, _, _, _, _, _, _, _, _, _, _, _, _, _, _, _, _, _, rfl, _⟩ := h; rfl) | (obtain ⟨_, _, _, _, _, _, _, _, _, _, _, _, _, _, _, _, _, _, _, _, _, rfl, _⟩ := h; rfl) | (obtain ⟨_, _, _, _, _, _, _, _, _, _, _, _, _, _, _, _, _, _, _, _, _, _, rfl, _⟩ := h; rfl) | (obtain ⟨_, _, _, _, _, _, _, _, _, _, _, _, _, _, _, _, _, _, _, _, _, _, _, rfl, _⟩ := h; rfl)) (fun cdv A outer s H vs Q E hr tk pz h => ?_)
  have hu := hr.units
  have hrH := L2H.roomH_of hr
  obtain ⟨x, l, r, f, n, v, L, R, F, rfl, ⟨⟨dx, hx⟩, hl, hr', hf, _⟩, hL, h1, h2⟩ := h
  refine ⟨_, (pss_cons (ps_if (pt_not (pt_chainA op_le op_le pe_int (pv 1) (pe_op o_add (pe_fld (pv 0) rfl) pe_int))) (pss_one (L2N.ps_raise rfl tk (Lk.pmk_own T.x_BadNode (List.cons_ne_nil _ _) hr T.c_BadNode (by exact (pa_cons (pv 1) pa_nil)) rfl))) pss_nil)
      (pss_one (ps_ret (pe_ix ix_seq (pe_fld (pv 0) rfl) (pv 1) (fun _ _ => rfl))))), ?_⟩
  show (_ : Ends → L2.St → Hp → Prop) _ [some _, some _] _
  try dsimp only [L2H.cxH, cxOf]
  walk_at "w"
  refine w_ite (fun c1 => ?_) (fun c1 => ?_)
  · walk_at "w"
    refine w_iteN (fun c2 => ?_) (fun c2 => ?_)
    · walk_at "w"
      refine ⟨rfl, fun d hd => h1 (fun z => c2 z.2) d _ hd upd_same (Kp.refl.new hd)⟩
    · walk_at "w"
      exact h2 c1 c2
  · walk_at "w"
    refine ⟨rfl, fun d hd => h1 (fun z => c1 z.1) d _ hd upd_same (Kp.refl.new hd)⟩
def sp_Links_right (a : AD) : Sp := fun vs H Q E => ∃ (x l r f : Addr) (n v : Int) (L R : List Int) (F : List Bool), vs = [.ref x, .int v] ∧ Lnk a H x l r f n L R F ∧ R.length = (n + 2).toNat ∧ (¬(0 ≤ v ∧ v ≤ n) → xBadNode a (.int v) E H) ∧ (0 ≤ v → v ≤ n → Q (.int (R.getD v.toNat default)) H)
theorem sc_Links_right : FnScope ["self", "node"] ["self", "node"] (defScope s_Links_right) := ⟨rfl, rfl, rfl, by decide +kernel, rfl, by decide +kernel, by decide +kernel⟩
theorem ok_Links_right {P : Program} {w : World} {K : PySem.W.Frag} {mg : Str → Option Value} {base : Heap} {a : AD} (T : Txt P K mg a) : FnA P w K mg base 2 a.f_Links_right ["self", "node"] (sp_Links_right a) := by
  obtain ⟨fd, F, b⟩ := T.F_Links_right
  refine FnA.of F sc_Links_right b (fun vs H Q E h => by first | (obtain ⟨rfl, _⟩ := h; rfl) | (obtain ⟨_, rfl, _⟩ := h; rfl) | (obtain ⟨_, _, rfl, _⟩ := h; rfl) | (obtain ⟨_, _, _, rfl, _⟩ := h; rfl) | (obtain ⟨_, _, _, _, rfl, _⟩ := h; rfl) | (obtain ⟨_, _, _, _, _, rfl, _⟩ := h; rfl) | (obtain ⟨_, _, _, _, _, _, rfl, _⟩ := h; rfl) | (obtain ⟨_, _, _, _, _, _, _, rfl, _⟩ := h; rfl) | (obtain ⟨_, _, _, _, _, _, _, _, rfl, _⟩ := h; rfl) | (obtain ⟨_, _, _, _, _, _, _, _, _, rfl, _⟩ := h; rfl) | (obtain ⟨_, _, _, _, _, _, _, _, _, _, rfl, _⟩ := h; rfl) | (obtain ⟨_, _, _, _, _, _, _, _, _, _, _, rfl, _⟩ := h; rfl) | (obtain ⟨_, _, _, _, _, _, _, _, _, _, _, _, rfl, _⟩ := h; rfl) | (obtain ⟨_, _, _, _, _, _, _, _, _, _, _, _, _, rfl, _⟩ := h; rfl) | (obtain ⟨_, _, _, _, _, _, _, _, _, _, _, _, _, _, rfl, _⟩ := h; rfl) | (obtain ⟨_, _, _, _, _, _, _, _, _, _, _, _, _, _, _, rfl, _⟩ := h; rfl) | (obtain ⟨_, _, _, _, _, _, _, _, _, _, _, _, _, _, _, _, rfl, _⟩ := h; rfl) | (obtain ⟨_, _, _, _, _, _, _, _, _, _, _, _, _, _, _, _, _, rfl, _⟩ := h; rfl) | (obtain ⟨_, _, _, _, _, _, _, _, _, _, _, _, _, _, _, _, _, _, rfl, _⟩ := h; rfl) | (obtain ⟨_, _, _, _, _, _, _, _, _, _, _, _, _, _, _, _, _, _, _, rfl, _⟩ := h; rfl) | (obtain ⟨_, _, _, _, _, _, _, _, _, _, _, _, _, _, _, _, _, _, _, _, rfl, _⟩ := h; rfl) | (obtain ⟨_, _, _, _, _, _, _, _, _, _, _, _, _, _, _, _, _, _, _, _, _, rfl, _⟩ := h; rfl) | (obtain ⟨_, _, _, _, _, _, _, _, _, _, _, _, _, _, _, _, _, _, _, _, _, _, rfl, _⟩ := h; rfl) | (obtain ⟨_, _, _, _, _, _, _, _, _, _, _, _, _, _, _, _, _, _, _, _, _, _, _, rfl, _⟩ := h; rfl)) (fun cdv A outer s H vs Q E hr tk pz h => ?_)
  have hu := hr.units
  have hrH := L2H.roomH_of hr
  obtain ⟨x, l, r, f, n, v, L, R, F, rfl, ⟨⟨dx, hx⟩, hl, hr', hf, _⟩, hL, h1, h2⟩ := h
  refine ⟨_, (pss_cons (ps_if (pt_not (pt_chainA op_le op_le pe_int (pv 1) (pe_fld (pv 0) rfl))) (pss_one (L2N.ps_raise rfl tk (Lk.pmk_own T.x_BadNode (List.cons_ne_nil _ _) hr T.c_BadNode (by exact (pa_cons (pv 1) pa_nil)) rfl))) pss_nil)
      (pss_one (ps_ret (pe_ix ix_seq (pe_fld (pv 0) rfl) (pv 1) (fun _ _ => rfl))))), ?_⟩
  show (_ : Ends → L2.St → Hp → Prop) _ [some _, some _] _
  try dsimp only [L2H.cxH, cxOf]
  walk_at "w"
  refine w_ite (fun c1 => ?_) (fun c1 => ?_)
  · walk_at "w"
    refine w_iteN (fun c2 => ?_) (fun c2 => ?_)
    · walk_at "w"
      refine ⟨rfl, fun d hd => h1 (fun z => c2 z.2) d _ hd upd_same (Kp.refl.new hd)⟩
    · walk_at "w"
      exact h2 c1 c2
  · walk_at "w"
    refine ⟨rfl, fun d hd => h1 (fun z => c1 z.1) d _ hd upd_same (Kp.refl.new hd)⟩
/-- the object after an operation on v: low and high its neighbours -/
def apR (L R : List Int) (o : Int) : List Int := R.set (L.getD o.natAbs default).toNat (if o < 0 then R.getD o.natAbs default else (o.natAbs : Int))
def apL (L R : List Int) (o : Int) : List Int := L.set (R.getD o.natAbs default).toNat (if o < 0 then L.getD o.natAbs default else (o.natAbs : Int))
def apF (F : List Bool) (o : Int) : List Bool := F.set o.natAbs (decide (o < 0))
def sp_Links_apply_at (a : AD) : Sp := fun vs H Q E => ∃ (x l r f : Addr) (n o i : Int) (L R : List Int) (F : List Bool), vs = [.ref x, .int o, .int i] ∧ Lnk a H x l r f n L R F ∧ L.length = (n + 2).toNat ∧ R.length = (n + 2).toNat ∧ F.length = (n + 2).toNat ∧
  (¬IsOp n o → xBadOperation a (.int o) (.int i) E H) ∧ (IsOp n o → F.getD o.natAbs default = decide (o < 0) → xIllegal a (.int o) (.int i) E H) ∧
  (IsOp n o → F.getD o.natAbs default ≠ decide (o < 0) → 0 ≤ L.getD o.natAbs default ∧ L.getD o.natAbs default < n + 2 ∧ 0 ≤ R.getD o.natAbs default ∧ R.getD o.natAbs default < n + 2 ∧ ∀ H', Lnk a H' x l r f n (apL L R o) (apR L R o) (apF F o) → Kp [l, r, f] H H' → Q .non H')
theorem sc_Links_apply_at : FnScope ["self", "operation", "index", "node", "is_unlink", "low", "high"] ["self", "operation", "index"] (defScope s_Links_apply_at) := ⟨rfl, rfl, rfl, by decide +kernel, rfl, by decide +kernel, by decide +kernel⟩
theorem ok_Links_apply_at {P : Program} {w : World} {K : PySem.W.Frag} {mg : Str → Option Value} {base : Heap} {a : AD} (T : Txt P K mg a) (G_check_operation : FnA P w K mg base 2 a.f_check_operation ["size", "operation", "index"] (sp_check_operation a)) : FnA P w K mg base 3 a.f_Links_apply_at ["self", "operation", "index"] (sp_Links_apply_at a) := by
  obtain ⟨fd, F, b⟩ := T.F_Links_apply_at
  refine FnA.of F sc_Links_apply_at b (fun vs H Q E h => by first | (obtain ⟨rfl, _⟩ := h; rfl) | (obtain ⟨_, rfl, _⟩ := h; rfl) | (obtain ⟨_, _, rfl, _⟩ := h; rfl) | (obtain ⟨_, _, _, rfl, _⟩ := h; rfl) | (obtain ⟨_, _, _, _, rfl, _⟩ := h; rfl) | (obtain ⟨_, _, _, _, _, rfl, _⟩ := h; rfl) | (obtain ⟨_, _, _, _, _, _, rfl, _⟩ := h; rfl) | (obtain ⟨_, _, _, _, _, _, _, rfl, _⟩ := h; rfl) | (obtain ⟨_, _, _, _, _, _, _, _, rfl, _⟩ := h; rfl) | (obtain ⟨_, _, _, _, _, _, _, _, _, rfl, _⟩ := h; rfl) | (obtain ⟨_, _, _, _, _, _, _, _, _, _, rfl, _⟩ := h; rfl) | (obtain ⟨_, _, _, _, _, _, _, _, _, _, _, rfl, _⟩ := h; rfl) | (obtain ⟨_, _, _, _, _, _, _, _, _, _, _, _, rfl, _⟩ := h; rfl) | (obtain ⟨_, _, _, _, _, _, _, _, _, _, _, _, _, rfl, _⟩ := h; rfl) | (obtain ⟨_, _, _, _, _, _, _, _, _, _, _, _, _, _, rfl, _⟩ := h; rfl) | (obtain ⟨_, _, _, _, _, _, _, _, _, _, _, _, _, _, _, rfl, _⟩ := h; rfl) | (obtain ⟨_, _, _, _, _, _, _, _, _, _, _, _, _, _, _, _, rfl, _⟩ := h; rfl) | (obtain ⟨_, _, _, _, _, _, _, _, _, _, _, _, _, _, _, _, _, rfl, _⟩ := h; rfl) | (obtain ⟨_, _, _, _, _, _, _, _, _, _, _, _, _, _, _, _, _, _, rfl, _⟩ := h; rfl) | (obtain ⟨_, _, _, _, _, _, _, _, _, _, _, _, _, _, _, _, _, _, _, rfl, _⟩ := h; rfl) | (obtain ⟨_, _, _, _, _, _, _, _, _, _, _, _, _, _, _, _, _, _, _, _, rfl, _⟩ := h; rfl) | (obtain ⟨_, _, _, _, _, _, _, _, _, _, _, _, _, _, _, _, _, _, _, _, _, rfl, _⟩ := h; rfl) | (obtain ⟨_, _, _, _, _, _, _, _, _, _, _, _, _, _, _, _, _, _, _, _, _, _, rfl, _⟩ := h; rfl) | (obtain ⟨_, _, _, _, _, _, _, _, _, _, _, _, _, _, _, _, _, _, _, _, _, _, _, rfl, _⟩ := h; rfl)) (fun cdv A outer s H vs Q E hr tk pz h => ?_)
  have hu := hr.units
  have hrH := L2H.roomH_of hr
  obtain ⟨x, l, r, f, n, o, i, L, R, F, rfl, ⟨⟨dx, hx⟩, hl, hr', hf, hlr, hlf, hrf⟩, hL, hR, hF, h1, h2, h3⟩ := h
  refine ⟨_, (pss_cons (ps_expr (pe_callA G_check_operation (Room.mono hr (by decide)) T.n_check_operation tk (pa_cons (pe_fld (pv 0) rfl) (pa_cons (pv 1) (pa_cons (pv 2) pa_nil)))))
      (pss_cons (ps_set (i := 3) sc_Links_apply_at.nd rfl (Or.inl rfl) (pe_callB (b_abs) rfl T.b_abs (by decide +kernel) (pa_cons (pv 1) pa_nil)))
      (pss_cons (ps_set (i := 4) sc_Links_apply_at.nd rfl (Or.inl rfl) (pe_cmpR op_lt (pv 1) pe_int (nomark _)))
      (pss_cons (ps_if (pt_cmpA (o_eq hu) (pe_ix ix_seq (pe_fld (pv 0) rfl) (pv 3) (fun _ _ => rfl)) (pv 4) (nomark _)) (pss_one (L2N.ps_raise rfl tk (Lk.pmk_own T.x_Illegal (List.cons_ne_nil _ _) hr T.c_Illegal (by exact (pa_cons (pv 1) (pa_cons (pv 2) pa_nil))) rfl))) pss_nil)
      (pss_cons (ps_set (i := 5) sc_Links_apply_at.nd rfl (Or.inl rfl) (pe_ix ix_seq (pe_fld (pv 0) rfl) (pv 3) (fun _ _ => rfl)))
      (pss_cons (ps_set (i := 6) sc_Links_apply_at.nd rfl (Or.inl rfl) (pe_ix ix_seq (pe_fld (pv 0) rfl) (pv 3) (fun _ _ => rfl)))
      (pss_cons (ps_asg (pe_ifExp (pt_tru (pv 4)) (pv 6) (pv 3)) (pg_sub (pe_fld (pv 0) rfl) (pv 5) set_list))
      (pss_cons (ps_asg (pe_ifExp (pt_tru (pv 4)) (pv 5) (pv 3)) (pg_sub (pe_fld (pv 0) rfl) (pv 6) set_list))
      (pss_one (ps_asg (pv 4) (pg_sub (pe_fld (pv 0) rfl) (pv 3) set_list))))))))))), ?_⟩
  show (_ : Ends → L2.St → Hp → Prop) _ [some _, some _, some _, none, none, none, none] _
  try dsimp only [L2H.cxH, cxOf]
  walk_at "w"
  refine ⟨n, o, i, rfl, h1, fun hop => ?_⟩
  have hop2 := hop.2
  walk_at "w"
  refine w_ite (fun c1 => ?_) (fun c1 => ?_)
  · walk_at "w"
    exact ⟨rfl, fun d hd => h2 hop c1 d _ hd upd_same (Kp.refl.new hd)⟩
  · obtain ⟨b1, b2, b3, b4, k⟩ := h3 hop c1
    have n1 : x ≠ l := ne_of hx hl (by intro z; cases z)
    have n2 : x ≠ r := ne_of hx hr' (by intro z; cases z)
    have n3 : x ≠ f := ne_of hx hf (by intro z; cases z)
    walk_at "w"
    simp only [Int.toNat_natCast]
    unfold apL apR apF at k
    refine w_ite (fun c2 => ?_) (fun c2 => ?_)
    · rw [if_pos c2, if_pos c2] at k
      walk_at "w"
      exact k _ ⟨⟨dx, by walk_at "hp"⟩, by walk_at "hp", by walk_at "hp", upd_same, hlr, hlf, hrf⟩ (((Kp.refl.mut (by simp)).mut (by simp)).mut (by simp))
    · rw [if_neg c2, if_neg c2] at k
      walk_at "w"
      exact k _ ⟨⟨dx, by walk_at "hp"⟩, by walk_at "hp", by walk_at "hp", upd_same, hlr, hlf, hrf⟩ (((Kp.refl.mut (by simp)).mut (by simp)).mut (by simp))
/-- an operation, at place i -/
def apSp (a : AD) (x l r f : Addr) (n o i : Int) (L R : List Int) (F : List Bool) (H : Hp) (Q : VK) (E : XK) : Prop := Lnk a H x l r f n L R F ∧ L.length = (n + 2).toNat ∧ R.length = (n + 2).toNat ∧ F.length = (n + 2).toNat ∧
  (¬IsOp n o → xBadOperation a (.int o) (.int i) E H) ∧ (IsOp n o → F.getD o.natAbs default = decide (o < 0) → xIllegal a (.int o) (.int i) E H) ∧
  (IsOp n o → F.getD o.natAbs default ≠ decide (o < 0) → 0 ≤ L.getD o.natAbs default ∧ L.getD o.natAbs default < n + 2 ∧ 0 ≤ R.getD o.natAbs default ∧ R.getD o.natAbs default < n + 2 ∧ ∀ H', Lnk a H' x l r f n (apL L R o) (apR L R o) (apF F o) → Kp [l, r, f] H H' → Q .non H')
def sp_Links_apply (a : AD) : Sp := fun vs H Q E => ∃ (x l r f : Addr) (n o : Int) (L R : List Int) (F : List Bool), vs = [.ref x, .int o] ∧ apSp a x l r f n o 0 L R F H Q E
theorem sc_Links_apply : FnScope ["self", "operation"] ["self", "operation"] (defScope s_Links_apply) := ⟨rfl, rfl, rfl, by decide +kernel, rfl, by decide +kernel, by decide +kernel⟩
theorem ok_Links_apply {P : Program} {w : World} {K : PySem.W.Frag} {mg : Str → Option Value} {base : Heap} {a : AD} (T : Txt P K mg a) (G_Links_apply_at : FnA P w K mg base 3 a.f_Links_apply_at ["self", "operation", "index"] (sp_Links_apply_at a)) : FnA P w K mg base 4 a.f_Links_apply ["self", "operation"] (sp_Links_apply a) := by
  obtain ⟨fd, F, b⟩ := T.F_Links_apply
  refine FnA.of F sc_Links_apply b (fun vs H Q E h => by first | (obtain ⟨rfl, _⟩ := h; rfl) | (obtain ⟨_, rfl, _⟩ := h; rfl) | (obtain ⟨_, _, rfl, _⟩ := h; rfl) | (obtain ⟨_, _, _, rfl, _⟩ := h; rfl) | (obtain ⟨_, _, _, _, rfl, _⟩ := h; rfl) | (obtain ⟨_, _, _, _, _, rfl, _⟩ := h; rfl) | (obtain ⟨_, _, _, _, _, _, rfl, _⟩ := h; rfl) | (obtain ⟨_, _, _, _, _, _, _, rfl, _⟩ := h; rfl) | (obtain ⟨_, _, _, _, _, _, _, _, rfl, _⟩ := h; rfl) | (obtain ⟨_, _, _, _, _, _, _, _, _, rfl, _⟩ := h; rfl) | (obtain ⟨_, _, _, _, _, _, _, _, _, _, rfl, _⟩ := h; rfl) | (obtain ⟨_, _, _, _, _, _, _, _, _, _, _, rfl, _⟩ := h; rfl) | (obtain ⟨_, _, _, _, _, _, _, _, _, _, _, _, rfl, _⟩ := h; rfl) | (obtain ⟨_, _, _, _, _, _, _, _, _, _, _, _, _, rfl, _⟩ := h; rfl) | (obtain ⟨_, _, _, _, _, _, _, _, _, _, _, _, _, _, rfl, _⟩ := h; rfl) | (obtain ⟨_, _, _, _, _, _, _, _, _, _, _, _, _, _, _, rfl, _⟩ := h; rfl) | (obtain ⟨_, _, _, _, _, _, _, _, _, _, _, _, _, _, _, _, rfl, _⟩ := h; rfl) | (obtain ⟨_, _, _, _, _, _, _, _, _, _, _, _, _, _, _, _, _, rfl, _⟩ := h; rfl) | (obtain ⟨_, _, _, _, _, _, _, _, _, _, _, _, _, _, _, _, _, _, rfl, _⟩ := h; rfl) | (obtain ⟨_, _, _, _, _, _, _, _, _, _, _, _, _, _, _, _, _, _, _, rfl, _⟩ := h; rfl) | (obtain ⟨_, _, _, _, _, _, _, _, _, _, _, _, _, _, _, _, _, _, _, _, rfl, _⟩ := h; rfl) | (obtain ⟨_, _, _, _, _, _, _, _, _, _, _, _, _, _, _, _, _, _, _, _, _, rfl, _⟩ := h; rfl) | (obtain ⟨_, _, _, _, _, _, _, _, _, _, _, _, _, _, _, _, _, _, _, _, _, _, rfl, _⟩ := h; rfl) | (obtain ⟨_, _, _, _, _, _, _, _, _, _, _, _, _, _, _, _, _, _, _, _, _, _, _, rfl, _⟩ := h; rfl)) (fun cdv A outer s H vs Q E hr tk pz h => ?_)
  have hu := hr.units
  have hrH := L2H.roomH_of hr
  obtain ⟨x, l, r, f, n, o, L, R, F, rfl, h⟩ := h
  have hx := h.1.1.choose_spec
  refine ⟨_, (pss_one (ps_expr (pe_methS (pl := _) G_Links_apply_at (Room.mono hr (by decide)) T.cl_Links T.me_Links_apply_at tk (pv 0) (pa_cons (pv 1) (pa_cons pe_int pa_nil))))), ?_⟩
  show (_ : Ends → L2.St → Hp → Prop) _ [some _, some _] _
  try dsimp only [L2H.cxH, cxOf]
  walk_at "w"
  refine ⟨x, l, r, f, n, o, 0, L, R, F, rfl, h.1, h.2.1, h.2.2.1, h.2.2.2.1, h.2.2.2.2.1, h.2.2.2.2.2.1, fun q1 q2 => ?_⟩
  obtain ⟨b1, b2, b3, b4, k⟩ := h.2.2.2.2.2.2 q1 q2
  refine ⟨b1, b2, b3, b4, fun H' j1 j2 => ?_⟩
  walk_at "w"
  exact k H' j1 j2
/-- a new object -/
def sp_Links___init__ (a : AD) : Sp := fun vs H Q E => ∃ (x dx : Addr) (n : Int), vs = [.ref x, .int n] ∧ H x = some (.ins a.Links dx []) ∧ (¬(0 ≤ n ∧ n ≤ 60) → xBadSize a (.int n) E H) ∧
  (0 ≤ n → n ≤ 60 → ∀ (l r f : Addr) (H' : Hp), H l = none → H r = none → H f = none → Lnk a H' x l r f n (rgI (-1) (n + 1)) (rgI 1 (n + 3)) (List.replicate (n + 2).toNat false) → Kp [x] H H' → Q .non H')
theorem sc_Links___init__ : FnScope ["self", "size"] ["self", "size"] (defScope s_Links___init__) := ⟨rfl, rfl, rfl, by decide +kernel, rfl, by decide +kernel, by decide +kernel⟩
theorem ok_Links___init__ {P : Program} {w : World} {K : PySem.W.Frag} {mg : Str → Option Value} {base : Heap} {a : AD} (T : Txt P K mg a) (G_check_size : FnA P w K mg base 2 a.f_check_size ["size"] (sp_check_size a)) : FnA P w K mg base 3 a.f_Links___init__ ["self", "size"] (sp_Links___init__ a) := by
  obtain ⟨fd, F, b⟩ := T.F_Links___init__
  refine FnA.of F sc_Links___init__ b (fun vs H Q E h => by first | (obtain ⟨rfl, _⟩ := h; rfl) | (obtain ⟨_, rfl, _⟩ := h; rfl) | (obtain ⟨_, _, rfl, _⟩ := h; rfl) | (obtain ⟨_, _, _, rfl, _⟩ := h; rfl) | (obtain ⟨_, _, _, _, rfl, _⟩ := h; rfl) | (obtain ⟨_, _, _, _, _, rfl, _⟩ := h; rfl) | (obtain ⟨_, _, _, _, _, _, rfl, _⟩ := h; rfl) | (obtain ⟨_, _, _, _, _, _, _, rfl, _⟩ := h; rfl) | (obtain ⟨_, _, _, _, _, _, _, _, rfl, _⟩ := h; rfl) | (obtain ⟨_, _, _, _, _, _, _, _, _, rfl, _⟩ := h; rfl) | (obtain ⟨_, _, _, _, _, _, _, _, _, _, rfl, _⟩ := h; rfl) | (obtain ⟨_, _, _, _, _, _, _, _, _, _, _, rfl, _⟩ := h; rfl) | (obtain ⟨_, _, _, _, _, _, _, _, _, _, _, _, rfl, _⟩ := h; rfl) | (obtain ⟨_, _, _, _, _, _, _, _, _, _, _, _, _, rfl, _⟩ := h; rfl) | (obtain ⟨_, _, _, _, _, _, _, _, _, _, _, _, _, _, rfl, _⟩ := h; rfl) | (obtain ⟨_, _, _, _, _, _, _, _, _, _, _, _, _, _, _, rfl, _⟩ := h; rfl) | (obtain ⟨_, _, _, _, _, _, _, _, _, _, _, _, _, _, _, _, rfl, _⟩ := h; rfl) | (obtain ⟨_, _, _, _, _, _, _, _, _, _, _, _, _, _, _, _, _, rfl, _⟩ := h; rfl) | (obtain ⟨_, _, _, _, _, _, _, _, _, _, _, _, _, _, _, _, _, _, rfl, _⟩ := h; rfl) | (obtain ⟨_, _, _, _, _, _, _, _, _, _, _, _, _, _, _, _, _, _, _, rfl, _⟩ := h; rfl) | (obtain ⟨_, _, _, _, _, _, _, _, _, _, _, _, _, _, _, _, _, _, _, _, rfl, _⟩ := h; rfl) | (obtain ⟨_, _, _, _, _, _, _, _, _, _, _, _, _, _, _, _, _, _, _, _, _, rfl, _⟩ := h; rfl) | (obtain ⟨_, _, _, _, _, _, _, _, _, _, _, _, _, _, _, _, _, _, _, _, _, _, rfl, _⟩ := h; rfl) | (obtain ⟨_, _, _, _, _, _, _, _, _, _, _, _, _, _, _, _, _, _, _, _, _, _, _, rfl, _⟩ := h; rfl)) (fun cdv A outer s H vs Q E hr tk pz h => ?_)
  have hu := hr.units
  have hrH := L2H.roomH_of hr
  obtain ⟨x, dx, n, rfl, hx, h1, h2⟩ := h
  refine ⟨_, (pss_cons (ps_expr (pe_callA G_check_size (Room.mono hr (by decide)) T.n_check_size tk (pa_cons (pv 1) pa_nil)))
      (pss_cons (ps_fld (pv 0) (pv 1) rfl)
      (pss_cons (ps_fld (pv 0) (pe_listRg rfl rfl T.b_list (prg_2 rfl T.b_range (pe_un un_neg pe_int) (pe_op o_add (pv 1) pe_int))) rfl)
      (pss_cons (ps_fld (pv 0) (pe_listRg rfl rfl T.b_list (prg_2 rfl T.b_range pe_int (pe_op o_add (pv 1) pe_int))) rfl)
      (pss_one (ps_fld (pv 0) (pe_op o_mul (pe_lst (pa_cons pe_bl pa_nil)) (pe_op o_add (pv 1) pe_int)) rfl)))))), ?_⟩
  show (_ : Ends → L2.St → Hp → Prop) _ [some _, some _] _
  try dsimp only [L2H.cxH, cxOf]
  walk_at "w"
  refine ⟨n, rfl, h1, fun n0 n1 => ?_⟩
  walk_at "w"
  intro l hl
  have hxl : x ≠ l := ne_of_none (by walk_at "hp") hl
  have l0 : H l = none := by rw [upd_ne (Ne.symm hxl)] at hl; exact hl
  walk_at "w"
  intro r hr
  have hxr : x ≠ r := ne_of_none upd_same hr
  have hlr : l ≠ r := ne_of_none (by walk_at "hp") hr
  have r0 : H r = none := by rw [upd_ne (Ne.symm hxr), upd_ne (Ne.symm hlr), upd_ne (Ne.symm hxr)] at hr; exact hr
  walk_at "w"
  intro f0 hf0
  walk_at "w"
  intro f hf
  have hxf : x ≠ f := ne_of_none (by walk_at "hp") hf
  have hlf : l ≠ f := ne_of_none (by walk_at "hp") hf
  have hrf : r ≠ f := ne_of_none (by walk_at "hp") hf
  have hff : f0 ≠ f := ne_of_none (by walk_at "hp") hf
  have f00 : H f = none := by rw [upd_ne (Ne.symm hff), upd_ne (Ne.symm hxf), upd_ne (Ne.symm hrf), upd_ne (Ne.symm hxf), upd_ne (Ne.symm hlf), upd_ne (Ne.symm hxf)] at hf; exact hf
  walk_at "w"
  refine h2 n0 n1 l r f _ l0 r0 f00 ⟨⟨dx, upd_same⟩, by walk_at "hp", by walk_at "hp", by walk_at "hp", hlr, hlf, hrf⟩ ?_
  have f01 : H f0 = none := by walk_at "fr"
  exact ((((((((Kp.refl.mut (by simp)).own l0).mut (by simp)).own r0).mut (by simp)).own f01).own f00).mut (by simp))
/-- the new object's promise -/
def newSp (a : AD) (n : Int) (L R : List Int) (F : List Bool) (H : Hp) (Q : VK) : Prop := ∀ (x l r f : Addr) (H' : Hp), H x = none → H l = none → H r = none → H f = none → Lnk a H' x l r f n L R F → Kp [] H H' → Q (.ref x) H'
def sp_Links_built (a : AD) : Sp := fun vs H Q E => ∃ (n : Int) (pl pr pf : Addr) (L R : List Int) (F : List Bool), vs = [.int n, .ref pl, .ref pr, .ref pf] ∧ 0 ≤ n ∧ n ≤ 60 ∧ H pl = some (.lst (L.map V.int)) ∧ H pr = some (.lst (R.map V.int)) ∧ H pf = some (.lst (F.map V.bl)) ∧ newSp a n L R F H Q
theorem sc_Links_built : FnScope ["size", "lefts", "rights", "flags", "links"] ["size", "lefts", "rights", "flags"] (defScope s_Links_built) := ⟨rfl, rfl, rfl, by decide +kernel, rfl, by decide +kernel, by decide +kernel⟩
theorem ok_Links_built {P : Program} {w : World} {K : PySem.W.Frag} {mg : Str → Option Value} {base : Heap} {a : AD} (T : Txt P K mg a) (G_Links___init__ : FnA P w K mg base 3 a.f_Links___init__ ["self", "size"] (sp_Links___init__ a)) : FnA P w K mg base 5 a.f_Links_built ["size", "lefts", "rights", "flags"] (sp_Links_built a) := by
  obtain ⟨fd, F, b⟩ := T.F_Links_built
  refine FnA.of F sc_Links_built b (fun vs H Q E h => by first | (obtain ⟨rfl, _⟩ := h; rfl) | (obtain ⟨_, rfl, _⟩ := h; rfl) | (obtain ⟨_, _, rfl, _⟩ := h; rfl) | (obtain ⟨_, _, _, rfl, _⟩ := h; rfl) | (obtain ⟨_, _, _, _, rfl, _⟩ := h; rfl) | (obtain ⟨_, _, _, _, _, rfl, _⟩ := h; rfl) | (obtain ⟨_, _, _, _, _, _, rfl, _⟩ := h; rfl) | (obtain ⟨_, _, _, _, _, _, _, rfl, _⟩ := h; rfl) | (obtain ⟨_, _, _, _, _, _, _, _, rfl, _⟩ := h; rfl) | (obtain ⟨_, _, _, _, _, _, _, _, _, rfl, _⟩ := h; rfl) | (obtain ⟨_, _, _, _, _, _, _, _, _, _, rfl, _⟩ := h; rfl) | (obtain ⟨_, _, _, _, _, _, _, _, _, _, _, rfl, _⟩ := h; rfl) | (obtain ⟨_, _, _, _, _, _, _, _, _, _, _, _, rfl, _⟩ := h; rfl) | (obtain ⟨_, _, _, _, _, _, _, _, _, _, _, _, _, rfl, _⟩ := h; rfl) | (obtain ⟨_, _, _, _, _, _, _, _, _, _, _, _, _, _, rfl, _⟩ := h; rfl) | (obtain ⟨_, _, _, _, _, _, _, _, _, _, _, _, _, _, _, rfl, _⟩ := h; rfl) | (obtain ⟨_, _, _, _, _, _, _, _, _, _, _, _, _, _, _, _, rfl, _⟩ := h; rfl) | (obtain ⟨_, _, _, _, _, _, _, _, _, _, _, _, _, _, _, _, _, rfl, _⟩ := h; rfl) | (obtain ⟨_, _, _, _, _, _, _, _, _, _, _, _, _, _, _, _, _, _, rfl, _⟩ := h; rfl) | (obtain ⟨_, _, _, _, _, _, _, _, _, _, _, _, _, _, _, _, _, _, _, rfl, _⟩ := h; rfl) | (obtain ⟨_, _, _, _, _, _, _, _, _, _, _, _, _, _, _, _, _, _, _, _, rfl, _⟩ := h; rfl) | (obtain ⟨_, _, _, _, _, _, _, _, _, _, _, _, _, _, _, _, _, _, _, _, _, rfl, _⟩ := h; rfl) | (obtain ⟨_, _, _, _, _, _, _, _, _, _, _, _, _, _, _, _, _, _, _, _, _, _, rfl, _⟩ := h; rfl) | (obtain ⟨_, _, _, _, _, _, _, _, _, _, _, _, _, _, _, _, _, _, _, _, _, _, _, rfl, _⟩ := h; rfl)) (fun cdv A outer s H vs Q E hr tk pz h => ?_)
  have hu := hr.units
  have hrH := L2H.roomH_of hr
  obtain ⟨n, pl, pr, pf, L, R, F, rfl, n0, n1, hpl, hpr, hpf, k⟩ := h
  refine ⟨_, (pss_cons (ps_set (i := 4) sc_Links_built.nd rfl (Or.inl rfl) (pe_makeS G_Links___init__ T.mk_Links (Room.mono hr (by decide)) T.c_Links tk (pa_cons (pv 0) pa_nil)))
      (pss_cons (ps_fld (pv 4) (pe_callTy b_list rfl T.b_list (by decide +kernel) (pa_cons (pv 1) pa_nil)) rfl)
      (pss_cons (ps_fld (pv 4) (pe_callTy b_list rfl T.b_list (by decide +kernel) (pa_cons (pv 2) pa_nil)) rfl)
      (pss_cons (ps_fld (pv 4) (pe_callTy b_list rfl T.b_list (by decide +kernel) (pa_cons (pv 3) pa_nil)) rfl)
      (pss_one (ps_ret (pv 4))))))), ?_⟩
  show (_ : Ends → L2.St → Hp → Prop) _ [some _, some _, some _, some _, none] _
  try dsimp only [L2H.cxH, cxOf]
  walk_at "w"
  intro x dx hx hdx hne
  have kx : Kp [] H (upd (upd H dx (.own x)) x (.ins a.Links dx [])) := (Kp.refl.new hdx).own hx
  refine ⟨x, dx, n, rfl, upd_same, fun z => absurd ⟨n0, n1⟩ z, fun _ _ l r f H1 hl hr hf hL k1 => ?_⟩
  obtain ⟨⟨dx', h1⟩, h2, h3, h4, hlr, hlf, hrf⟩ := hL
  have x1 : x ≠ pl := Ne.symm (ne_of_none hpl hx)
  have x2 : x ≠ pr := Ne.symm (ne_of_none hpr hx)
  have x3 : x ≠ pf := Ne.symm (ne_of_none hpf hx)
  have q1 : H1 pl = some (.lst (L.map V.int)) := k1.at (kx.at0 hpl) (by simp; exact Ne.symm x1)
  have q2 : H1 pr = some (.lst (R.map V.int)) := k1.at (kx.at0 hpr) (by simp; exact Ne.symm x2)
  have q3 : H1 pf = some (.lst (F.map V.bl)) := k1.at (kx.at0 hpf) (by simp; exact Ne.symm x3)
  have k0 : Kp [] H H1 := fun b o e _ => k1 b o (kx.at0 e) (by simp; intro z; subst z; rw [hx] at e; cases e)
  refine ⟨rfl, ?_⟩
  walk_at "w"
  intro l2 hl2
  have y1 : x ≠ l2 := ne_of_none h1 hl2
  have y2 : pr ≠ l2 := ne_of_none q2 hl2
  have y3 : pf ≠ l2 := ne_of_none q3 hl2
  walk_at "w"
  intro r2 hr2
  have y4 : x ≠ r2 := ne_of_none upd_same hr2
  have y5 : l2 ≠ r2 := ne_of_none (by walk_at "hp") hr2
  have y6 : pf ≠ r2 := ne_of_none (by walk_at "hp") hr2
  walk_at "w"
  intro f2 hf2
  have y7 : x ≠ f2 := ne_of_none upd_same hf2
  have y8 : l2 ≠ f2 := ne_of_none (by walk_at "hp") hf2
  have y9 : r2 ≠ f2 := ne_of_none (by walk_at "hp") hf2
  walk_at "w"
  have l20 : H l2 = none := by walk_at "fr"
  have r20 : H r2 = none := by walk_at "fr"
  have f20 : H f2 = none := by walk_at "fr"
  refine k x l2 r2 f2 _ hx l20 r20 f20 ⟨⟨dx', upd_same⟩, by walk_at "hp", by walk_at "hp", by walk_at "hp", y5, y8, y9⟩ ?_
  exact ((((((k0.own l20).own hx).own r20).own hx).own f20).own hx)
def sp_Links_copy (a : AD) : Sp := fun vs H Q E => ∃ (x l r f : Addr) (n : Int) (L R : List Int) (F : List Bool), vs = [.ref x] ∧ Lnk a H x l r f n L R F ∧ 0 ≤ n ∧ n ≤ 60 ∧ newSp a n L R F H Q
theorem sc_Links_copy : FnScope ["self"] ["self"] (defScope s_Links_copy) := ⟨rfl, rfl, rfl, by decide +kernel, rfl, by decide +kernel, by decide +kernel⟩
theorem ok_Links_copy {P : Program} {w : World} {K : PySem.W.Frag} {mg : Str → Option Value} {base : Heap} {a : AD} (T : Txt P K mg a) (G_Links_built : FnA P w K mg base 5 a.f_Links_built ["size", "lefts", "rights", "flags"] (sp_Links_built a)) : FnA P w K mg base 6 a.f_Links_copy ["self"] (sp_Links_copy a) := by
  obtain ⟨fd, F, b⟩ := T.F_Links_copy
  refine FnA.of F sc_Links_copy b (fun vs H Q E h => by first | (obtain ⟨rfl, _⟩ := h; rfl) | (obtain ⟨_, rfl, _⟩ := h; rfl) | (obtain ⟨_, _, rfl, _⟩ := h; rfl) | (obtain ⟨_, _, _, rfl, _⟩ := h; rfl) | (obtain ⟨_, _, _, _, rfl, _⟩ := h; rfl) | (obtain ⟨_, _, _, _, _, rfl, _⟩ := h; rfl) | (obtain ⟨_, _, _, _, _, _, rfl, _⟩ := h; rfl) | (obtain ⟨_, _, _, _, _, _, _, rfl, _⟩ := h; rfl) | (obtain ⟨_, _, _, _, _, _, _, _, rfl, _⟩ := h; rfl) | (obtain ⟨_, _, _, _, _, _, _, _, _, rfl, _⟩ := h; rfl) | (obtain ⟨_, _, _, _, _, _, _, _, _, _, rfl, _⟩ := h; rfl) | (obtain ⟨_, _, _, _, _, _, _, _, _, _, _, rfl, _⟩ := h; rfl) | (obtain ⟨_, _, _, _, _, _, _, _, _, _, _, _, rfl, _⟩ := h; rfl) | (obtain ⟨_, _, _, _, _, _, _, _, _, _, _, _, _, rfl, _⟩ := h; rfl) | (obtain ⟨_, _, _, _, _, _, _, _, _, _, _, _, _, _, rfl, _⟩ := h; rfl) | (obtain ⟨_, _, _, _, _, _, _, _, _, _, _, _, _, _, _, rfl, _⟩ := h; rfl) | (obtain ⟨_, _, _, _, _, _, _, _, _, _, _, _, _, _, _, _, rfl, _⟩ := h; rfl) | (obtain ⟨_, _, _, _, _, _, _, _, _, _, _, _, _, _, _, _, _, rfl, _⟩ := h; rfl) | (obtain ⟨_, _, _, _, _, _, _, _, _, _, _, _, _, _, _, _, _, _, rfl, _⟩ := h; rfl) | (obtain ⟨_, _, _, _, _, _, _, _, _, _, _, _, _, _, _, _, _, _, _, rfl, _⟩ := h; rfl) | (obtain ⟨_, _, _, _, _, _, _, _, _, _, _, _, _, _, _, _, _, _, _, _, rfl, _⟩ := h; rfl) | (obtain ⟨_, _, _, _, _, _, _, _, _, _, _, _, _, _, _, _, _, _, _, _, _, rfl, _⟩ := h; rfl) | (obtain ⟨_, _, _, _, _, _, _, _, _, _, _, _, _, _, _, _, _, _, _, _, _, _, rfl, _⟩ := h; rfl) | (obtain ⟨_, _, _, _, _, _, _, _, _, _, _, _, _, _, _, _, _, _, _, _, _, _, _, rfl, _⟩ := h; rfl)) (fun cdv A outer s H vs Q E hr tk pz h => ?_)
  have hu := hr.units
  have hrH := L2H.roomH_of hr
  obtain ⟨x, l, r, f, n, L, R, F, rfl, ⟨⟨dx, hx⟩, hl, hr', hf, _⟩, n0, n1, k⟩ := h
  refine ⟨_, (pss_one (ps_ret (T.st_Links_built.elim fun _ h => pe_static (pl := _) G_Links_built (Room.mono hr (by decide)) T.rd_Links h T.c_Links tk (pa_cons (pe_fld (pv 0) rfl) (pa_cons (pe_fld (pv 0) rfl) (pa_cons (pe_fld (pv 0) rfl) (pa_cons (pe_fld (pv 0) rfl) pa_nil))))))), ?_⟩
  show (_ : Ends → L2.St → Hp → Prop) _ [some _] _
  try dsimp only [L2H.cxH, cxOf]
  walk_at "w"
  exact ⟨n, l, r, f, L, R, F, rfl, n0, n1, hl, hr', hf, k⟩

/-! ### reading a dump -/
def sp_is_number (a : AD) : Sp := fun vs H Q E => ∃ z : Str, vs = [.str z] ∧ z.length ≤ 1000000 ∧ Q (.bl (isNumW z)) H
theorem sc_is_number : FnScope ["word"] ["word"] (defScope s_is_number) := ⟨rfl, rfl, rfl, by decide +kernel, rfl, by decide +kernel, by decide +kernel⟩
theorem ok_is_number {P : Program} {w : World} {K : PySem.W.Frag} {mg : Str → Option Value} {base : Heap} {a : AD} (T : Txt P K mg a) : FnA P w K mg base 2 a.f_is_number ["word"] (sp_is_number a) := by
  obtain ⟨fd, F, b⟩ := T.F_is_number
  refine FnA.of F sc_is_number b (fun vs H Q E h => by first | (obtain ⟨rfl, _⟩ := h; rfl) | (obtain ⟨_, rfl, _⟩ := h; rfl) | (obtain ⟨_, _, rfl, _⟩ := h; rfl) | (obtain ⟨_, _, _, rfl, _⟩ := h; rfl) | (obtain ⟨_, _, _, _, rfl, _⟩ := h; rfl) | (obtain ⟨_, _, _, _, _, rfl, _⟩ := h; rfl) | (obtain ⟨_, _, _, _, _, _, rfl, _⟩ := h; rfl) | (obtain ⟨_, _, _, _, _, _, _, rfl, _⟩ := h; rfl) | (obtain ⟨_, _, _, _, _, _, _, _, rfl, _⟩ := h; rfl) | (obtain ⟨_, _, _, _, _, _, _, _, _, rfl, _⟩ := h; rfl) | (obtain ⟨_, _, _, _, _, _, _, _, _, _, rfl, _⟩ := h; rfl) | (obtain ⟨_, _, _, _, _, _, _, _, _, _, _, rfl, _⟩ := h; rfl) | (obtain ⟨_, _, _, _, _, _, _, _, _, _, _, _, rfl, _⟩ := h; rfl) | (obtain ⟨_, _, _, _, _, _, _, _, _, _, _, _, _, rfl, _⟩ := h; rfl) | (obtain ⟨_, _, _, _, _, _, _, _, _, _, _, _, _, _, rfl, _⟩ := h; rfl) | (obtain ⟨_, _, _, _, _, _, _, _, _, _, _, _, _, _, _, rfl, _⟩ := h; rfl) | (obtain ⟨_, _, _, _, _, _, _, _, _, _, _, _, _, _, _, _, rfl, _⟩ := h; rfl) | (obtain ⟨_, _, _, _, _, _, _, _, _, _, _, _, _, _, _, _, _, rfl, _⟩ := h; rfl) | (obtain ⟨_, _, _, _, _, _, _, _, _, _, _, _, _, _, _, _, _, _, rfl, _⟩ := h; rfl) | (obtain ⟨_, _, _, _, _, _, _, _, _, _, _, _, _, _, _, _, _, _, _, rfl, _⟩ := h; rfl) | (obtain ⟨_, _, _, _, _, _, _, _, _, _, _, _, _, _, _, _, _, _, _, _, rfl, _⟩ := h; rfl) | (obtain ⟨_, _, _, _, _, _, _, _, _, _, _, _, _, _, _, _, _, _, _, _, _, rfl, _⟩ := h; rfl) | (obtain ⟨_, _, _, _, _, _, _, _, _, _, _, _, _, _, _, _, _, _, _, _, _, _, rfl, _⟩ := h; rfl) | (obtain ⟨_, _, _, _, _, _, _, _, _, _, _, _, _, _, _, _, _, _, _, _, _, _, _, rfl, _⟩ := h; rfl)) (fun cdv A outer s H vs Q E hr tk pz h => ?_)
  have hu := hr.units
  have hrH := L2H.roomH_of hr
  obtain ⟨z, rfl, hz, k⟩ := h
  refine ⟨_, (pss_cons (ps_if (pt_not (PW.pt (pw_and (pt_tru (pe_bm0 PySem.F.plainAttrs_str PySem.F.slot_str_isascii PySem.F.type_str_isascii m_isascii (pv 0))) (pw_and1 (pt_tru (pe_bm0 PySem.F.plainAttrs_str PySem.F.slot_str_isdigit PySem.F.type_str_isdigit m_isdigit (pv 0))))))) (pss_one (ps_ret pe_bl)) pss_nil)
      (pss_one (ps_ret (pe_or (pe_cmpR (o_eq hu) (pv 0) pe_str (nomark _)) (pe_one (pe_and (pe_cmpR (o_ne hu) (pe_ix ix_seq (pv 0) pe_int (fun _ _ => rfl)) pe_str (nomark _)) (pe_one (pe_cmpR op_le (pe_callB (b_len) rfl T.b_len (by decide +kernel) (pa_cons (pv 0) pa_nil)) (T.k_MOST_DIGITS.elim fun t hm => pe_glob (v := .int 9) rfl hm ⟨t, rfl⟩) (nomark _))))))))), ?_⟩
  show (_ : Ends → L2.St → Hp → Prop) _ [some _] _
  try dsimp only [L2H.cxH, cxOf]
  walk_at "w"
  unfold isNumW at k
  refine w_iteb (fun c1 => ?_) (fun c1 => ?_)
  · walk_at "w"
    refine w_itenb (fun c2 => ?_) (fun c2 => ?_)
    · walk_at "w"
      rw [c1, c2] at k
      exact k
    · walk_at "w"
      obtain ⟨d, ne⟩ := num_digits c1 c2
      have hc : z.cps.toList[(0 : Int).toNat]? = some (z.cps.toList.getD 0 default) := by
        have : (TL.tl z) ≠ [] := ne
        cases e : z.cps.toList with
        | nil => exact absurd e this
        | cons c r => rfl
      rw [c1, c2] at k
      refine w_ite (fun c3 => ?_) (fun c3 => ?_)
      · rw [show decide (z = ("0" : Str)) = true by simpa using c3] at k
        exact k
      · rw [show decide (z = ("0" : Str)) = false by simpa using c3] at k
        walk_at "w"
        refine w_ixS (by rw [sizeLine_eq]; omega) (by omega) hc ?_
        walk_at "w"
        refine w_iteN (fun c4 => ?_) (fun c4 => ?_)
        · rw [show decide ((⟨#[z.cps.toList.getD 0 default]⟩ : Str) = ("0" : Str)) = false by simpa using c4] at k
          walk_at "w"
          exact k
        · rw [show decide ((⟨#[z.cps.toList.getD 0 default]⟩ : Str) = ("0" : Str)) = true by simpa using c4] at k
          walk_at "w"
          exact k
  · walk_at "w"
    rw [c1] at k
    exact k
/-- a new list of the numbers, or None -/
def rdSp (H : Hp) (Q : VK) (R : List Int → Prop) : Prop := (∀ us, R us → ∀ r H', H r = none → Kp [] H H' → H' r = some (.lst (us.map V.int)) → Q (.ref r) H') ∧ ((∀ us, ¬R us) → ∀ H', Kp [] H H' → Q .non H')
def sp__numbers (a : AD) : Sp := fun vs H Q E => ∃ z : Str, vs = [.str z] ∧ z.length ≤ 1000000 ∧ rdSp H Q (fun us => numsOf z = some us)
theorem sc__numbers : FnScope ["part", "words", "word"] ["part"] (defScope s__numbers) := ⟨rfl, rfl, rfl, by decide +kernel, rfl, by decide +kernel, by decide +kernel⟩
theorem ok__numbers {P : Program} {w : World} {K : PySem.W.Frag} {mg : Str → Option Value} {base : Heap} {a : AD} (T : Txt P K mg a) (G_is_number : FnA P w K mg base 2 a.f_is_number ["word"] (sp_is_number a)) : FnA P w K mg base 3 a.f__numbers ["part"] (sp__numbers a) := by
  obtain ⟨fd, F, b⟩ := T.F__numbers
  refine FnA.of F sc__numbers b (fun vs H Q E h => by first | (obtain ⟨rfl, _⟩ := h; rfl) | (obtain ⟨_, rfl, _⟩ := h; rfl) | (obtain ⟨_, _, rfl, _⟩ := h; rfl) | (obtain ⟨_, _, _, rfl, _⟩ := h; rfl) | (obtain ⟨_, _, _, _, rfl, _⟩ := h; rfl) | (obtain ⟨_, _, _, _, _, rfl, _⟩ := h; rfl) | (obtain ⟨_, _, _, _, _, _, rfl, _⟩ := h; rfl) | (obtain ⟨_, _, _, _, _, _, _, rfl, _⟩ := h; rfl) | (obtain ⟨_, _, _, _, _, _, _, _, rfl, _⟩ := h; rfl) | (obtain ⟨_, _, _, _, _, _, _, _, _, rfl, _⟩ := h; rfl) | (obtain ⟨_, _, _, _, _, _, _, _, _, _, rfl, _⟩ := h; rfl) | (obtain ⟨_, _, _, _, _, _, _, _, _, _, _, rfl, _⟩ := h; rfl) | (obtain ⟨_, _, _, _, _, _, _, _, _, _, _, _, rfl, _⟩ := h; rfl) | (obtain ⟨_, _, _, _, _, _, _, _, _, _, _, _, _, rfl, _⟩ := h; rfl) | (obtain ⟨_, _, _, _, _, _, _, _, _, _, _, _, _, _, rfl, _⟩ := h; rfl) | (obtain ⟨_, _, _, _, _, _, _, _, _, _, _, _, _, _, _, rfl, _⟩ := h; rfl) | (obtain ⟨_, _, _, _, _, _, _, _, _, _, _, _, _, _, _, _, rfl, _⟩ := h; rfl) | (obtain ⟨_, _, _, _, _, _, _, _, _, _, _, _, _, _, _, _, _, rfl, _⟩ := h; rfl) | (obtain ⟨_, _, _, _, _, _, _, _, _, _, _, _, _, _, _, _, _, _, rfl, _⟩ := h; rfl) | (obtain ⟨_, _, _, _, _, _, _, _, _, _, _, _, _, _, _, _, _, _, _, rfl, _⟩ := h; rfl) | (obtain ⟨_, _, _, _, _, _, _, _, _, _, _, _, _, _, _, _, _, _, _, _, rfl, _⟩ := h; rfl) | (obtain ⟨_, _, _, _, _, _, _, _, _, _, _, _, _, _, _, _, _, _, _, _, _, rfl, _⟩ := h; rfl) | (obtain ⟨_, _, _, _, _, _, _, _, _, _, _, _, _, _, _, _, _, _, _, _, _, _, rfl, _⟩ := h; rfl) | (obtain ⟨_, _, _, _, _, _, _, _, _, _, _, _, _, _, _, _, _, _, _, _, _, _, _, rfl, _⟩ := h; rfl)) (fun cdv A outer s H vs Q E hr tk pz h => ?_)
  have hu := hr.units
  have hrH := L2H.roomH_of hr
  obtain ⟨z, rfl, hz, k⟩ := h
  refine ⟨_, (pss_cons (ps_set (i := 1) sc__numbers.nd rfl (Or.inl rfl) (pe_bm PySem.F.plainAttrs_str PySem.F.slot_str_split PySem.F.type_str_split m_split (pv 0) (pa_cons pe_str pa_nil)))
      (pss_cons (ps_for pz rfl (pi_list (pv 1)) (pg_name (i := 2) sc__numbers.nd rfl (Or.inl rfl))
      (pss_one (ps_if (pt_not (pt_tru (pe_callA G_is_number (Room.mono hr (by decide)) T.n_is_number tk (pa_cons (pv 2) pa_nil)))) (pss_one (ps_ret pe_non)) pss_nil)))
      (pss_one (ps_ret (pe_lc (own := [("word", 2)]) (g := (gName 2)) (tt := tYes) rfl sc__numbers.nd (pi_list (pv 1)) (blkOk_by (own := [("word", 2)]) (N := ["part", "words", "word"]) (sc := defScope s__numbers) (by decide +kernel)) (fun _ _ _ _ _ => (pg_name (i := 2) sc__numbers.nd rfl (Or.inl rfl))) (fun _ _ _ _ _ => pts_nil) (fun _ _ _ _ _ => (pe_callTy b_intA rfl T.b_int (by decide +kernel) (pa_cons (pv 2) pa_nil)))))))), ?_⟩
  show (_ : Ends → L2.St → Hp → Prop) _ [some _, none, none] _
  try dsimp only [L2H.cxH, cxOf]
  walk_at "w"
  have hlen := split_len (z := z) (y := " ") (by rw [tl_sp]; simp) k_sp
  have hpl := split_part_len (z := z) (y := " ") (by rw [tl_sp]; simp) k_sp
  unfold rdSp numsOf at k
  generalize Txt.split z " " = ws at hlen hpl k
  intro p hp
  have hp1 : upd H p (.lst (ws.map V.str)) p = some (.lst (ws.map V.str)) := upd_same
  have hk1 : Kp [] H (upd H p (.lst (ws.map V.str))) := Kp.refl.new hp
  generalize upd H p (.lst (ws.map V.str)) = H1 at hp1 hk1
  walk_at "w"
  refine w_forM (us := ws) (f := V.str) hp1 (fun i σ' H' => (∃ x, σ' = [some (.str z), some (.ref p), x]) ∧ H' = H1 ∧ ∀ j w, j < i → ws[j]? = some w → isNumW w = true) ⟨⟨_, rfl⟩, rfl, fun j w hj => by omega⟩ (fun i σ' H' _ q => by rw [q.2.1]; exact hp1) ?_ ?_
  · rintro i u σ' H' hu ⟨⟨x, rfl⟩, rfl, hj⟩
    walk_at "w"
    refine ⟨u, rfl, Nat.le_trans (hpl u (List.mem_of_getElem? hu)) hz, ?_⟩
    walk_at "w"
    refine w_itenb (fun c => ?_) (fun c => ?_)
    · walk_at "w"
      refine k.2 (fun us q => ?_) _ hk1
      split at q
      · rename_i q2
        have := List.all_eq_true.mp q2 u (List.mem_of_getElem? hu)
        rw [c] at this; cases this
      · cases q
    · walk_at "w"
      refine ⟨⟨_, rfl⟩, rfl, fun j w hj' hw => ?_⟩
      by_cases q : j < i
      · exact hj j w q hw
      · obtain rfl : j = i := by omega
        rw [hu] at hw
        cases hw
        exact c
  · rintro σ' H' ⟨⟨x, rfl⟩, rfl, hj⟩
    have hall : ws.all isNumW = true := by
      rw [List.all_eq_true]
      intro w hw
      obtain ⟨j, hjl, rfl⟩ := List.getElem_of_mem hw
      exact hj j _ hjl (List.getElem?_eq_getElem hjl)
    walk_at "w"
    refine w_lcM (us := ws) (f := V.str) (f' := V.int) (fun w => some (numV w)) hp1 (by rw [sizeLine_eq]; omega) ?_ ?_
    · intro D i u acc H2 hD hu hk hA hl
      have hn := num_text (List.all_eq_true.mp hall u (List.mem_of_getElem? hu))
      walk_at "w"
      refine ⟨rfl, ?_⟩
      walk_at "w"
      refine w_intS hn.1 hn.2.2 ?_
      exact w_keep hk hA hl hD rfl
    · intro D H2 hD hk hA
      rw [fm_some] at hA
      exact k.1 _ (by rw [if_pos hall]) D H2 (hk1.free hD) (hk1.trans hk) hA
def RightsOk (us : List Int) : Prop := us.length ≤ 61 ∧ ∀ (i : Nat) (u : Int), us[i]? = some u → (i : Int) < u ∧ u ≤ us.length
def LeftsOk (n : Int) (us : List Int) : Prop := (us.length : Int) = n + 1 ∧ ∀ (i : Nat) (u : Int), us[i]? = some u → u ≤ (i : Int)
def outsOk (n : Int) : Int → List Int → Prop
  | _, [] => True
  | last, u :: us => last < u ∧ u ≤ n ∧ outsOk n u us
def RdR (z : Str) (us : List Int) : Prop := numsOf z = some us ∧ RightsOk us
def RdL (n : Int) (z : Str) (us : List Int) : Prop := numsOf z = some us ∧ LeftsOk n us
def RdO (n : Int) (z : Str) (us : List Int) : Prop := (z = "none" ∧ us = []) ∨ (z ≠ "none" ∧ numsOf z = some us ∧ outsOk n 0 us)
def sp__read_rights (a : AD) : Sp := fun vs H Q E => ∃ z : Str, vs = [.str z] ∧ z.length ≤ 1000000 ∧ rdSp H Q (RdR z)
theorem sc__read_rights : FnScope ["part", "rights", "node", "link"] ["part"] (defScope s__read_rights) := ⟨rfl, rfl, rfl, by decide +kernel, rfl, by decide +kernel, by decide +kernel⟩
theorem ok__read_rights {P : Program} {w : World} {K : PySem.W.Frag} {mg : Str → Option Value} {base : Heap} {a : AD} (T : Txt P K mg a) (G__numbers : FnA P w K mg base 3 a.f__numbers ["part"] (sp__numbers a)) : FnA P w K mg base 4 a.f__read_rights ["part"] (sp__read_rights a) := by
  obtain ⟨fd, F, b⟩ := T.F__read_rights
  refine FnA.of F sc__read_rights b (fun vs H Q E h => by first | (obtain ⟨rfl, _⟩ := h; rfl) | (obtain ⟨_, rfl, _⟩ := h; rfl) | (obtain ⟨_, _, rfl, _⟩ := h; rfl) | (obtain ⟨_, _, _, rfl, _⟩ := h; rfl) | (obtain ⟨_, _, _, _, rfl, _⟩ := h; rfl) | (obtain ⟨_, _, _, _, _, rfl, _⟩ := h; rfl) | (obtain ⟨_, _, _, _, _, _, rfl, _⟩ := h; rfl) | (obtain ⟨_, _, _, _, _, _, _, rfl, _⟩ := h; rfl) | (obtain ⟨_, _, _, _, _, _, _, _, rfl, _⟩ := h; rfl) | (obtain ⟨_, _, _, _, _, _, _, _, _, rfl, _⟩ := h; rfl) | (obtain ⟨_, _, _, _, _, _, _, _, _, _, rfl, _⟩ := h; rfl) | (obtain ⟨_, _, _, _, _, _, _, _, _, _, _, rfl, _⟩ := h; rfl) | (obtain ⟨_, _, _, _, _, _, _, _, _, _, _, _, rfl, _⟩ := h; rfl) | (obtain ⟨_, _, _, _, _, _, _, _, _, _, _, _, _, rfl, _⟩ := h; rfl) | (obtain ⟨_, _, _, _, _, _, _, _, _, _, _, _, _, _, rfl, _⟩ := h; rfl) | (obtain ⟨_, _, _, _, _, _, _, _, _, _, _, _, _, _, _, rfl, _⟩ := h; rfl) | (obtain ⟨_, _, _, _, _, _, _, _, _, _, _, _, _, _, _, _, rfl, _⟩ := h; rfl) | (obtain ⟨_, _, _, _, _, _, _, _, _, _, _, _, _, _, _, _, _, rfl, _⟩ := h; rfl) | (obtain ⟨_, _, _, _, _, _, _, _, _, _, _, _, _, _, _, _, _, _, rfl, _⟩ := h; rfl) | (obtain ⟨_, _, _, _, _, _, _, _, _, _, _, _, _, _, _, _, _, _, _, rfl, _⟩ := h; rfl) | (obtain ⟨_, _, _, _, _, _, _, _, _, _, _, _, _, _, _, _, _, _, _, _, rfl, _⟩ := h; rfl) | (obtain ⟨_, _, _, _, _, _, _, _, _, _, _, _, _, _, _, _, _, _, _, _, _, rfl, _⟩ := h; rfl) | (obtain ⟨_, _, _, _, _, _, _, _, _, _, _, _, _, _, _, _, _, _, _, _, _, _, rfl, _⟩ := h; rfl) | (obtain ⟨_, _, _, _, _, _, _, _, _, _, _, _, _, _, _, _, _, _, _, _, _, _, _, rfl, _⟩ := h; rfl)) (fun cdv A outer s H vs Q E hr tk pz h => ?_)
  have hu := hr.units
  have hrH := L2H.roomH_of hr
  obtain ⟨z, rfl, hz, k1, k2⟩ := h
  refine ⟨_, (pss_cons (ps_set (i := 1) sc__read_rights.nd rfl (Or.inl rfl) (pe_callA G__numbers (Room.mono hr (by decide)) T.n__numbers tk (pa_cons (pv 0) pa_nil)))
      (pss_cons (ps_if (PW.pt (pw_or (pt_cmpA o_isN (pv 1) pe_non (nomark _)) (pw_or1 (pt_cmpA op_gt (pe_callB (b_len) rfl T.b_len (by decide +kernel) (pa_cons (pv 1) pa_nil)) (pe_op o_add (ClX.pe_cval (pe_glob (v := .ref a.Links) rfl T.c_Links rfl)) pe_int) (nomark _))))) (pss_one (ps_ret pe_non)) pss_nil)
      (pss_cons (ps_for pz rfl (pi_enum rfl T.b_enumerate (pa_cons (pv 1) pa_nil)) (pg_tup (n := 2) rfl (pgs_cons (pg_name (i := 2) sc__read_rights.nd rfl (Or.inl rfl)) (pgs_cons (pg_name (i := 3) sc__read_rights.nd rfl (Or.inl rfl)) pgs_nil)))
      (pss_one (ps_if (pt_not (pt_chainA op_lt op_le (pv 2) (pv 3) (pe_callB (b_len) rfl T.b_len (by decide +kernel) (pa_cons (pv 1) pa_nil)))) (pss_one (ps_ret pe_non)) pss_nil)))
      (pss_one (ps_ret (pv 1)))))), ?_⟩
  show (_ : Ends → L2.St → Hp → Prop) _ [some _, none, none, none] _
  try dsimp only [L2H.cxH, cxOf]
  walk_at "w"
  refine ⟨z, rfl, hz, fun us hus r H1 hr hk hr1 => ?_, fun hno H1 hk => ?_⟩
  · have hlen := (numsOf_len hus).2.1
    have bad : ¬RightsOk us → ∀ us', ¬RdR z us' := fun hb us' q => by
      have e := q.1
      rw [hus] at e
      cases e
      exact hb q.2
    walk_at "w"
    refine w_ite (fun c => ?_) (fun c => ?_)
    · walk_at "w"
      exact k2 (bad fun q => by have := q.1; omega) H1 hk
    · walk_at "w"
      refine w_enumM hr1 (fun i σ' H' => (∃ x y, σ' = [some (.str z), some (.ref r), x, y]) ∧ Kp [] H1 H' ∧ ∀ (j : Nat) (u : Int), j < i → us[j]? = some u → (j : Int) < u ∧ u ≤ us.length) ⟨⟨_, _, rfl⟩, Kp.refl, fun j w hj => by omega⟩ (fun i σ' H' _ q => q.2.1.at0 hr1) ?_ ?_
      · rintro i u T σ' H' hu ⟨⟨x, y, rfl⟩, hk2, hj⟩ hT
        have hr2 : H' r = some (.lst (us.map V.int)) := hk2.at0 hr1
        walk_at "w"
        have no : ¬((i : Int) < u ∧ u ≤ us.length) → Q .non (upd H' T (.tup [.int (i : Int), .int u])) := fun hb => k2 (bad fun q => hb (q.2 i u hu)) _ ((hk.trans hk2).new hT)
        refine w_ite (fun c1 => ?_) (fun c1 => ?_)
        · walk_at "w"
          refine w_iteN (fun c2 => ?_) (fun c2 => ?_)
          · walk_at "w"
            exact no fun q => c2 q.2
          · walk_at "w"
            refine ⟨⟨_, _, rfl⟩, hk2.new hT, fun j w hj' hw => ?_⟩
            by_cases q : j < i
            · exact hj j w q hw
            · obtain rfl : j = i := by omega
              rw [hu] at hw
              cases hw
              exact ⟨c1, c2⟩
        · walk_at "w"
          exact no fun q => c1 q.1
      · rintro σ' H' ⟨⟨x, y, rfl⟩, hk2, hj⟩
        walk_at "w"
        exact k1 us ⟨hus, by omega, fun i u hu => hj i u (List.getElem?_eq_some_iff.mp hu).1 hu⟩ r H' hr (hk.trans hk2) (hk2.at0 hr1)
  · walk_at "w"
    exact k2 (fun us q => hno us q.1) H1 hk
def sp__read_lefts (a : AD) : Sp := fun vs H Q E => ∃ (z : Str) (n : Int), vs = [.str z, .int n] ∧ z.length ≤ 1000000 ∧ rdSp H Q (RdL n z)
theorem sc__read_lefts : FnScope ["part", "size", "lefts", "index", "link"] ["part", "size"] (defScope s__read_lefts) := ⟨rfl, rfl, rfl, by decide +kernel, rfl, by decide +kernel, by decide +kernel⟩
theorem ok__read_lefts {P : Program} {w : World} {K : PySem.W.Frag} {mg : Str → Option Value} {base : Heap} {a : AD} (T : Txt P K mg a) (G__numbers : FnA P w K mg base 3 a.f__numbers ["part"] (sp__numbers a)) : FnA P w K mg base 4 a.f__read_lefts ["part", "size"] (sp__read_lefts a) := by
  obtain ⟨fd, F, b⟩ := T.F__read_lefts
  refine FnA.of F sc__read_lefts b (fun vs H Q E h => by first | (obtain ⟨rfl, _⟩ := h; rfl) | (obtain ⟨_, rfl, _⟩ := h; rfl) | (obtain ⟨_, _, rfl, _⟩ := h; rfl) | (obtain ⟨_, _, _, rfl, _⟩ := h; rfl) | (obtain ⟨_, _, _, _, rfl, _⟩ := h; rfl) | (obtain ⟨_, _, _, _, _, rfl, _⟩ := h; rfl) | (obtain ⟨_, _, _, _, _, _, rfl, _⟩ := h; rfl) | (obtain ⟨_, _, _, _, _, _, _, rfl, _⟩ := h; rfl) | (obtain ⟨_, _, _, _, _, _, _, _, rfl, _⟩ := h; rfl) | (obtain ⟨_, _, _, _, _, _, _, _, _, rfl, _⟩ := h; rfl) | (obtain ⟨_, _, _, _, _, _, _, _, _, _, rfl, _⟩ := h; rfl) | (obtain ⟨_, _, _, _, _, _, _, _, _, _, _, rfl, _⟩ := h; rfl) | (obtain ⟨_, _, _, _, _, _, _, _, _, _, _, _, rfl, _⟩ := h; rfl) | (obtain ⟨_, _, _, _, _, _, _, _, _, _, _, _, _, rfl, _⟩ := h; rfl) | (obtain ⟨_, _, _, _, _, _, _, _, _, _, _, _, _, _, rfl, _⟩ := h; rfl) | (obtain ⟨_, _, _, _, _, _, _, _, _, _, _, _, _, _, _, rfl, _⟩ := h; rfl) | (obtain ⟨_, _, _, _, _, _, _, _, _, _, _, _, _, _, _, _, rfl, _⟩ := h; rfl) | (obtain ⟨_, _, _, _, _, _, _, _, _, _, _, _, _, _, _, _, _, rfl, _⟩ := h; rfl) | (obtain ⟨_, _, _, _, _, _, _, _, _, _, _, _, _, _, _, _, _, _, rfl, _⟩ := h; rfl) | (obtain ⟨_, _, _, _, _, _, _, _, _, _, _, _, _, _, _, _, _, _, _, rfl, _⟩ := h; rfl) | (obtain ⟨_, _, _, _, _, _, _, _, _, _, _, _, _, _, _, _, _, _, _, _, rfl, _⟩ := h; rfl) | (obtain ⟨_, _, _, _, _, _, _, _, _, _, _, _, _, _, _, _, _, _, _, _, _, rfl, _⟩ := h; rfl) | (obtain ⟨_, _, _, _, _, _, _, _, _, _, _, _, _, _, _, _, _, _, _, _, _, _, rfl, _⟩ := h; rfl) | (obtain ⟨_, _, _, _, _, _, _, _, _, _, _, _, _, _, _, _, _, _, _, _, _, _, _, rfl, _⟩ := h; rfl)) (fun cdv A outer s H vs Q E hr tk pz h => ?_)
  have hu := hr.units
  have hrH := L2H.roomH_of hr
  obtain ⟨z, n, rfl, hz, k1, k2⟩ := h
  refine ⟨_, (pss_cons (ps_set (i := 2) sc__read_lefts.nd rfl (Or.inl rfl) (pe_callA G__numbers (Room.mono hr (by decide)) T.n__numbers tk (pa_cons (pv 0) pa_nil)))
      (pss_cons (ps_if (PW.pt (pw_or (pt_cmpA o_isN (pv 2) pe_non (nomark _)) (pw_or1 (pt_cmpA (o_ne hu) (pe_callB (b_len) rfl T.b_len (by decide +kernel) (pa_cons (pv 2) pa_nil)) (pe_op o_add (pv 1) pe_int) (nomark _))))) (pss_one (ps_ret pe_non)) pss_nil)
      (pss_cons (ps_for pz rfl (pi_enum rfl T.b_enumerate (pa_cons (pv 2) pa_nil)) (pg_tup (n := 2) rfl (pgs_cons (pg_name (i := 3) sc__read_lefts.nd rfl (Or.inl rfl)) (pgs_cons (pg_name (i := 4) sc__read_lefts.nd rfl (Or.inl rfl)) pgs_nil)))
      (pss_one (ps_if (pt_cmpA op_gt (pv 4) (pv 3) (nomark _)) (pss_one (ps_ret pe_non)) pss_nil)))
      (pss_one (ps_ret (pv 2)))))), ?_⟩
  show (_ : Ends → L2.St → Hp → Prop) _ [some _, some _, none, none, none] _
  try dsimp only [L2H.cxH, cxOf]
  walk_at "w"
  refine ⟨z, rfl, hz, fun us hus r H1 hr hk hr1 => ?_, fun hno H1 hk => ?_⟩
  · have hlen := (numsOf_len hus).2.1
    have bad : ¬LeftsOk n us → ∀ us', ¬RdL n z us' := fun hb us' q => by
      have e := q.1
      rw [hus] at e
      cases e
      exact hb q.2
    walk_at "w"
    refine w_iteN (fun c => ?_) (fun c => ?_)
    · walk_at "w"
      exact k2 (bad fun q => c q.1) H1 hk
    · walk_at "w"
      refine w_enumM hr1 (fun i σ' H' => (∃ x y, σ' = [some (.str z), some (.int n), some (.ref r), x, y]) ∧ Kp [] H1 H' ∧ ∀ (j : Nat) (u : Int), j < i → us[j]? = some u → u ≤ (j : Int)) ⟨⟨_, _, rfl⟩, Kp.refl, fun j w hj => by omega⟩ (fun i σ' H' _ q => q.2.1.at0 hr1) ?_ ?_
      · rintro i u T σ' H' hu ⟨⟨x, y, rfl⟩, hk2, hj⟩ hT
        walk_at "w"
        refine w_ite (fun c1 => ?_) (fun c1 => ?_)
        · walk_at "w"
          exact k2 (bad fun q => by have := q.2 i u hu; omega) _ ((hk.trans hk2).new hT)
        · walk_at "w"
          refine ⟨⟨_, _, rfl⟩, hk2.new hT, fun j w hj' hw => ?_⟩
          by_cases q : j < i
          · exact hj j w q hw
          · obtain rfl : j = i := by omega
            rw [hu] at hw
            cases hw
            omega
      · rintro σ' H' ⟨⟨x, y, rfl⟩, hk2, hj⟩
        walk_at "w"
        exact k1 us ⟨hus, c, fun i u hu => hj i u (List.getElem?_eq_some_iff.mp hu).1 hu⟩ r H' hr (hk.trans hk2) (hk2.at0 hr1)
  · walk_at "w"
    exact k2 (fun us q => hno us q.1) H1 hk
theorem take_snoc {α : Type} {us : List α} {i : Nat} {u : α} (h : us[i]? = some u) : us.take (i + 1) = us.take i ++ [u] := by
  rw [List.take_succ, h]; rfl
/-- outsOk from the front -/
theorem outsOk_snoc {n : Int} : ∀ {us : List Int} {last u : Int}, outsOk n last (us ++ [u]) ↔ outsOk n last us ∧ (us.getLastD last < u ∧ u ≤ n)
  | [], last, u => by simp [outsOk]
  | v :: us, last, u => by
    rw [List.cons_append]
    unfold outsOk
    rw [outsOk_snoc]
    have : (v :: us).getLastD last = us.getLastD v := by cases us <;> rfl
    rw [this]
    simp only [and_assoc]
theorem outsOk_app {n : Int} : ∀ {us vs : List Int} {last : Int}, outsOk n last (us ++ vs) → outsOk n last us
  | [], _, _, _ => trivial
  | v :: us, vs, last, h => ⟨h.1, h.2.1, outsOk_app h.2.2⟩
def sp__read_outs (a : AD) : Sp := fun vs H Q E => ∃ (z : Str) (n : Int), vs = [.str z, .int n] ∧ z.length ≤ 1000000 ∧ rdSp H Q (RdO n z)
theorem sc__read_outs : FnScope ["part", "size", "outs", "last", "node"] ["part", "size"] (defScope s__read_outs) := ⟨rfl, rfl, rfl, by decide +kernel, rfl, by decide +kernel, by decide +kernel⟩
theorem ok__read_outs {P : Program} {w : World} {K : PySem.W.Frag} {mg : Str → Option Value} {base : Heap} {a : AD} (T : Txt P K mg a) (G__numbers : FnA P w K mg base 3 a.f__numbers ["part"] (sp__numbers a)) : FnA P w K mg base 4 a.f__read_outs ["part", "size"] (sp__read_outs a) := by
  obtain ⟨fd, F, b⟩ := T.F__read_outs
  refine FnA.of F sc__read_outs b (fun vs H Q E h => by first | (obtain ⟨rfl, _⟩ := h; rfl) | (obtain ⟨_, rfl, _⟩ := h; rfl) | (obtain ⟨_, _, rfl, _⟩ := h; rfl) | (obtain ⟨_, _, _, rfl, _⟩ := h; rfl) | (obtain ⟨_, _, _, _, rfl, _⟩ := h; rfl) | (obtain ⟨_, _, _, _, _, rfl, _⟩ := h; rfl) | (obtain ⟨_, _, _, _, _, _, rfl, _⟩ := h; rfl) | (obtain ⟨_, _, _, _, _, _, _, rfl, _⟩ := h; rfl) | (obtain ⟨_, _, _, _, _, _, _, _, rfl, _⟩ := h; rfl) | (obtain ⟨_, _, _, _, _, _, _, _, _, rfl, _⟩ := h; rfl) | (obtain ⟨_, _, _, _, _, _, _, _, _, _, rfl, _⟩ := h; rfl) | (obtain ⟨_, _, _, _, _, _, _, _, _, _, _, rfl, _⟩ := h; rfl) | (obtain ⟨_, _, _, _, _, _, _, _, _, _, _, _, rfl, _⟩ := h; rfl) | (obtain ⟨_, _, _, _, _, _, _, _, _, _, _, _, _, rfl, _⟩ := h; rfl) | (obtain ⟨_, _, _, _, _, _, _, _, _, _, _, _, _, _, rfl, _⟩ := h; rfl) | (obtain ⟨_, _, _, _, _, _, _, _, _, _, _, _, _, _, _, rfl, _⟩ := h; rfl) | (obtain ⟨_, _, _, _, _, _, _, _, _, _, _, _, _, _, _, _, rfl, _⟩ := h; rfl) | (obtain ⟨_, _, _, _, _, _, _, _, _, _, _, _, _, _, _, _, _, rfl, _⟩ := h; rfl) | (obtain ⟨_, _, _, _, _, _, _, _, _, _, _, _, _, _, _, _, _, _, rfl, _⟩ := h; rfl) | (obtain ⟨_, _, _, _, _, _, _, _, _, _, _, _, _, _, _, _, _, _, _, rfl, _⟩ := h; rfl) | (obtain ⟨_, _, _, _, _, _, _, _, _, _, _, _, _, _, _, _, _, _, _, _, rfl, _⟩ := h; rfl) | (obtain ⟨_, _, _, _, _, _, _, _, _, _, _, _, _, _, _, _, _, _, _, _, _, rfl, _⟩ := h; rfl) | (obtain ⟨_, _, _, _, _, _, _, _, _, _, _, _, _, _, _, _, _, _, _, _, _, _, rfl, _⟩ := h; rfl) | (obtain ⟨_, _, _, _, _, _, _, _, _, _, _, _, _, _, _, _, _, _, _, _, _, _, _, rfl, _⟩ := h; rfl)) (fun cdv A outer s H vs Q E hr tk pz h => ?_)
  have hu := hr.units
  have hrH := L2H.roomH_of hr
  obtain ⟨z, n, rfl, hz, k1, k2⟩ := h
  refine ⟨_, (pss_cons (ps_if (pt_cmpA (o_eq hu) (pv 0) pe_str (nomark _)) (pss_one (ps_ret (pe_lst pa_nil))) pss_nil)
      (pss_cons (ps_set (i := 2) sc__read_outs.nd rfl (Or.inl rfl) (pe_callA G__numbers (Room.mono hr (by decide)) T.n__numbers tk (pa_cons (pv 0) pa_nil)))
      (pss_cons (ps_if (pt_cmpA o_isN (pv 2) pe_non (nomark _)) (pss_one (ps_ret pe_non)) pss_nil)
      (pss_cons (ps_set (i := 3) sc__read_outs.nd rfl (Or.inl rfl) pe_int)
      (pss_cons (ps_for pz rfl (pi_list (pv 2)) (pg_name (i := 4) sc__read_outs.nd rfl (Or.inl rfl))
      (pss_cons (ps_if (pt_not (pt_chainA op_lt op_le (pv 3) (pv 4) (pv 1))) (pss_one (ps_ret pe_non)) pss_nil)
      (pss_one (ps_set (i := 3) sc__read_outs.nd rfl (Or.inl rfl) (pv 4)))))
      (pss_one (ps_ret (pv 2)))))))), ?_⟩
  show (_ : Ends → L2.St → Hp → Prop) _ [some _, some _, none, none, none] _
  try dsimp only [L2H.cxH, cxOf]
  walk_at "w"
  refine w_ite (fun c0 => ?_) (fun c0 => ?_)
  · walk_at "w"
    intro r hr
    exact k1 [] (.inl ⟨c0, rfl⟩) r _ hr (Kp.refl.new hr) upd_same
  · walk_at "w"
    refine ⟨z, rfl, hz, fun us hus r H1 hr hk hr1 => ?_, fun hno H1 hk => ?_⟩
    · have bad : ¬outsOk n 0 us → ∀ us', ¬RdO n z us' := fun hb us' q => by
        rcases q with q | ⟨_, e, q⟩
        · exact c0 q.1
        · rw [hus] at e
          cases e
          exact hb q
      walk_at "w"
      refine w_forM hr1 (fun i σ' H' => (∃ x, σ' = [some (.str z), some (.int n), some (.ref r), some (.int ((us.take i).getLastD 0)), x]) ∧ H' = H1 ∧ outsOk n 0 (us.take i)) ⟨⟨_, rfl⟩, rfl, trivial⟩ (fun i σ' H' _ q => by rw [q.2.1]; exact hr1) ?_ ?_
      · rintro i u σ' H' hu ⟨⟨x, rfl⟩, rfl, hj⟩
        have et := take_snoc hu
        have elast : (us.take (i + 1)).getLastD 0 = u := by rw [et]; simp
        have no : ¬((us.take i).getLastD 0 < u ∧ u ≤ n) → Q .non H' := fun hb => k2 (bad fun q => hb (by
          rw [← List.take_append_drop (i + 1) us] at q
          have q2 := outsOk_app q
          rw [et, outsOk_snoc] at q2
          exact q2.2)) _ hk
        walk_at "w"
        refine w_ite (fun c1 => ?_) (fun c1 => ?_)
        · walk_at "w"
          refine w_iteN (fun c2 => ?_) (fun c2 => ?_)
          · walk_at "w"
            exact no fun q => c2 q.2
          · walk_at "w"
            rw [elast]
            refine ⟨⟨_, rfl⟩, rfl, ?_⟩
            rw [et, outsOk_snoc]
            exact ⟨hj, c1, c2⟩
        · walk_at "w"
          exact no fun q => c1 q.1
      · rintro σ' H' ⟨⟨x, rfl⟩, rfl, hj⟩
        rw [List.take_length] at hj
        walk_at "w"
        exact k1 us (.inr ⟨c0, hus, hj⟩) r H' hr hk hr1
    · walk_at "w"
      exact k2 (fun us q => by
        rcases q with q | ⟨_, e, q⟩
        · exact c0 q.1
        · exact hno us e) H1 hk

def flagsOf (n : Int) (os : List Int) : List Bool := os.foldl (fun F v => F.set v.toNat true) (List.replicate (n + 2).toNat false)
theorem flagsOf_len (n : Int) (os : List Int) : (flagsOf n os).length = (n + 2).toNat := by
  unfold flagsOf
  suffices h : ∀ (l : List Int) (fs : List Bool), (l.foldl (fun F v => F.set v.toNat true) fs).length = fs.length by
    rw [h]; simp
  intro l
  induction l with
  | nil => intro fs; rfl
  | cons o l ih => intro fs; rw [List.foldl_cons, ih]; simp
theorem flagsOf_snoc (n : Int) (l : List Int) (o : Int) : flagsOf n (l ++ [o]) = (flagsOf n l).set o.toNat true := by
  unfold flagsOf
  rw [List.foldl_append]; rfl
theorem outsOk_mem {n : Int} : ∀ {us : List Int} {last : Int}, outsOk n last us → ∀ u ∈ us, last < u ∧ u ≤ n
  | [], _, _ => fun u hu => by cases hu
  | v :: us, last, h => fun u hu => by
    rcases List.mem_cons.mp hu with z | z
    · subst z; exact ⟨h.1, h.2.1⟩
    · have := outsOk_mem h.2.2 u z
      have := h.1
      omega
def readSp (a : AD) (ps : List Str) (H : Hp) (Q : VK) (E : XK) : Prop :=
  (∀ us ls os, RdR (ps.getD 0 default) us → 1 < ps.length → RdL ((us.length : Int) - 1) (ps.getD 1 default) ls → 2 < ps.length → RdO ((us.length : Int) - 1) (ps.getD 2 default) os → ps.length ≤ 3 →
    newSp a ((us.length : Int) - 1) (-1 :: ls) (us ++ [(us.length : Int) - 1 + 2]) (flagsOf ((us.length : Int) - 1) os) H Q) ∧
  ((∀ us, ¬RdR (ps.getD 0 default) us) → xBadDump a (.int 0) E H) ∧
  (∀ us, RdR (ps.getD 0 default) us → (1 < ps.length → ∀ ls, ¬RdL ((us.length : Int) - 1) (ps.getD 1 default) ls) → xBadDump a (.int 1) E H) ∧
  (∀ us ls, RdR (ps.getD 0 default) us → 1 < ps.length → RdL ((us.length : Int) - 1) (ps.getD 1 default) ls → (2 < ps.length → ∀ os, ¬RdO ((us.length : Int) - 1) (ps.getD 2 default) os) → xBadDump a (.int 2) E H) ∧
  (∀ us ls os, RdR (ps.getD 0 default) us → 1 < ps.length → RdL ((us.length : Int) - 1) (ps.getD 1 default) ls → 2 < ps.length → RdO ((us.length : Int) - 1) (ps.getD 2 default) os → 3 < ps.length → xBadDump a (.int 3) E H)
theorem RdR.len {z : Str} {us : List Int} (h : RdR z us) : 1 ≤ us.length ∧ us.length ≤ 61 := ⟨(numsOf_len h.1).1, h.2.1⟩
theorem RdO.ok {n : Int} {z : Str} {us : List Int} (h : RdO n z us) : outsOk n 0 us := by
  rcases h with h | h
  · rw [h.2]; trivial
  · exact h.2.2
def sp_Links_read (a : AD) : Sp := fun vs H Q E => ∃ z : Str, vs = [.str z] ∧ z.length ≤ 900000 ∧ readSp a (Txt.split z " | ") H Q E
theorem sc_Links_read : FnScope ["text", "parts", "rights", "size", "lefts", "outs", "flags", "node"] ["text"] (defScope s_Links_read) := ⟨rfl, rfl, rfl, by decide +kernel, rfl, by decide +kernel, by decide +kernel⟩
theorem ok_Links_read {P : Program} {w : World} {K : PySem.W.Frag} {mg : Str → Option Value} {base : Heap} {a : AD} (T : Txt P K mg a) (G__read_rights : FnA P w K mg base 4 a.f__read_rights ["part"] (sp__read_rights a)) (G__read_lefts : FnA P w K mg base 4 a.f__read_lefts ["part", "size"] (sp__read_lefts a)) (G__read_outs : FnA P w K mg base 4 a.f__read_outs ["part", "size"] (sp__read_outs a)) (G_Links_built : FnA P w K mg base 5 a.f_Links_built ["size", "lefts", "rights", "flags"] (sp_Links_built a)) : FnA P w K mg base 6 a.f_Links_read ["text"] (sp_Links_read a) := by
  obtain ⟨fd, F, b⟩ := T.F_Links_read
  refine FnA.of F sc_Links_read b (fun vs H Q E h => by first | (obtain ⟨rfl, _⟩ := h; rfl) | (obtain ⟨_, rfl, _⟩ := h; rfl) | (obtain ⟨_, _, rfl, _⟩ := h; rfl) | (obtain ⟨_, _, _, rfl, _⟩ := h; rfl) | (obtain ⟨_, _, _, _, rfl, _⟩ := h; rfl) | (obtain ⟨_, _, _, _, _, rfl, _⟩ := h; rfl) | (obtain ⟨_, _, _, _, _, _, rfl, _⟩ := h; rfl) | (obtain ⟨_, _, _, _, _, _, _, rfl, _⟩ := h; rfl) | (obtain ⟨_, _, _, _, _, _, _, _, rfl, _⟩ := h; rfl) | (obtain ⟨_, _, _, _, _, _, _, _, _, rfl, _⟩ := h; rfl) | (obtain ⟨_, _, _, _, _, _, _, _, _, _, rfl, _⟩ := h; rfl) | (obtain ⟨_, _, _, _, _, _, _, _, _, _, _, rfl, _⟩ := h; rfl) | (obtain ⟨_, _, _, _, _, _, _, _, _, _, _, _, rfl, _⟩ := h; rfl) | (obtain ⟨_, _, _, _, _, _, _, _, _, _, _, _, _, rfl, _⟩ := h; rfl) | (obtain ⟨_, _, _, _, _, _, _, _, _, _, _, _, _, _, rfl, _⟩ := h; rfl) | (obtain ⟨_, _, _, _, _, _, _, _, _, _, _, _, _, _, _, rfl, _⟩ := h; rfl) | (obtain ⟨_, _, _, _, _, _, _, _, _, _, _, _, _, _, _, _, rfl, _⟩ := h; rfl) | (obtain ⟨_, _, _, _, _, _, _, _, _, _, _, _, _, _, _, _, _, rfl, _⟩ := h; rfl) | (obtain ⟨_, _, _, _, _, _, _, _, _, _, _, _, _, _, _, _, _, _, rfl, _⟩ := h; rfl) | (obtain ⟨_, _, _, _, _, _, _, _, _, _, _, _, _, _, _, _, _, _, _, rfl, _⟩ := h; rfl) | (obtain ⟨_, _, _, _, _, _, _, _, _, _, _, _, _, _, _, _, _, _, _, _, rfl, _⟩ := h; rfl) | (obtain ⟨_, _, _, _, _, _, _, _, _, _, _, _, _, _, _, _, _, _, _, _, _, rfl, _⟩ := h; rfl) | (obtain ⟨_, _, _, _, _, _, _, _, _, _, _, _, _, _, _, _, _, _, _, _, _, _, rfl, _⟩ := h; rfl) | (obtain ⟨_, _, _, _, _, _, _, _, _, _, _, _, _, _, _, _, _, _, _, _, _, _, _, rfl, _⟩ := h; rfl)) (fun cdv A outer s H vs Q E hr tk pz h => ?_)
  have hu := hr.units
  have hrH := L2H.roomH_of hr
  obtain ⟨z, rfl, hz, h⟩ := h
  refine ⟨_, (pss_cons (ps_set (i := 1) sc_Links_read.nd rfl (Or.inl rfl) (pe_bm PySem.F.plainAttrs_str PySem.F.slot_str_split PySem.F.type_str_split m_split (pv 0) (pa_cons pe_str pa_nil)))
      (pss_cons (ps_set (i := 2) sc_Links_read.nd rfl (Or.inl rfl) (pe_callA G__read_rights (Room.mono hr (by decide)) T.n__read_rights tk (pa_cons (pe_ix ix_seq (pv 1) pe_int (fun _ _ => rfl)) pa_nil)))
      (pss_cons (ps_if (pt_cmpA o_isN (pv 2) pe_non (nomark _)) (pss_one (L2N.ps_raise rfl tk (Lk.pmk_own T.x_BadDump (List.cons_ne_nil _ _) hr T.c_BadDump (by exact (pa_cons pe_int pa_nil)) rfl))) pss_nil)
      (pss_cons (ps_set (i := 3) sc_Links_read.nd rfl (Or.inl rfl) (pe_op op_sub (pe_callB (b_len) rfl T.b_len (by decide +kernel) (pa_cons (pv 2) pa_nil)) pe_int))
      (pss_cut (ps_set (i := 4) sc_Links_read.nd rfl (Or.inl rfl) (pe_ifExp (pt_cmpA op_gt (pe_callB (b_len) rfl T.b_len (by decide +kernel) (pa_cons (pv 1) pa_nil)) pe_int (nomark _)) (pe_callA G__read_lefts (Room.mono hr (by decide)) T.n__read_lefts tk (pa_cons (pe_ix ix_seq (pv 1) pe_int (fun _ _ => rfl)) (pa_cons (pv 3) pa_nil))) pe_non))
      (pss_cons (ps_if (pt_cmpA o_isN (pv 4) pe_non (nomark _)) (pss_one (L2N.ps_raise rfl tk (Lk.pmk_own T.x_BadDump (List.cons_ne_nil _ _) hr T.c_BadDump (by exact (pa_cons pe_int pa_nil)) rfl))) pss_nil)
      (pss_cut (ps_set (i := 5) sc_Links_read.nd rfl (Or.inl rfl) (pe_ifExp (pt_cmpA op_gt (pe_callB (b_len) rfl T.b_len (by decide +kernel) (pa_cons (pv 1) pa_nil)) pe_int (nomark _)) (pe_callA G__read_outs (Room.mono hr (by decide)) T.n__read_outs tk (pa_cons (pe_ix ix_seq (pv 1) pe_int (fun _ _ => rfl)) (pa_cons (pv 3) pa_nil))) pe_non))
      (pss_cons (ps_if (pt_cmpA o_isN (pv 5) pe_non (nomark _)) (pss_one (L2N.ps_raise rfl tk (Lk.pmk_own T.x_BadDump (List.cons_ne_nil _ _) hr T.c_BadDump (by exact (pa_cons pe_int pa_nil)) rfl))) pss_nil)
      (pss_cons (ps_if (pt_cmpA op_gt (pe_callB (b_len) rfl T.b_len (by decide +kernel) (pa_cons (pv 1) pa_nil)) (T.k_PARTS.elim fun t hm => pe_glob (v := .int 3) rfl hm ⟨t, rfl⟩) (nomark _)) (pss_one (L2N.ps_raise rfl tk (Lk.pmk_own T.x_BadDump (List.cons_ne_nil _ _) hr T.c_BadDump (by exact (pa_cons (T.k_PARTS.elim fun t hm => pe_glob (v := .int 3) rfl hm ⟨t, rfl⟩) pa_nil)) rfl))) pss_nil)
      (pss_cons (ps_set (i := 6) sc_Links_read.nd rfl (Or.inl rfl) (pe_op o_mul (pe_lst (pa_cons pe_bl pa_nil)) (pe_op o_add (pv 3) pe_int)))
      (pss_cons (ps_for pz rfl (pi_list (pv 5)) (pg_name (i := 7) sc_Links_read.nd rfl (Or.inl rfl))
      (pss_one (ps_asg pe_bl (pg_sub (pv 6) (pv 7) set_list))))
      (pss_one (ps_ret (T.st_Links_built.elim fun _ h => pe_static (pl := _) G_Links_built (Room.mono hr (by decide)) T.rd_Links h T.c_Links tk (pa_cons (pv 3) (pa_cons (pe_op o_add (pe_lst (pa_cons (pe_un un_neg pe_int) pa_nil)) (pv 4)) (pa_cons (pe_op o_add (pv 2) (pe_lst (pa_cons (pe_op o_add (pv 3) pe_int) pa_nil))) (pa_cons (pv 6) pa_nil)))))))))))))))))), ?_⟩
  show (_ : Ends → L2.St → Hp → Prop) _ [some _, none, none, none, none, none, none, none] _
  try dsimp only [L2H.cxH, cxOf]
  walk_at "w"
  have hps := split_len (z := z) (y := " | ") (by rw [tl_bar]; simp) k_bar
  have hpl := split_part_len (z := z) (y := " | ") (by rw [tl_bar]; simp) k_bar
  have hpn := split_ne (z := z) (y := " | ") (by rw [tl_bar]; simp) k_bar
  generalize Txt.split z " | " = ps at h hps hpl hpn
  obtain ⟨h0, e0, e1, e2, e3⟩ := h
  have hp0 : 0 < ps.length := List.length_pos_iff.mpr hpn
  have hpi : ∀ i, i < ps.length → (ps.getD i default).length ≤ 1000000 := fun i hi => by
    have := hpl (ps.getD i default) (List.mem_of_getElem? (getD_some hi))
    omega
  intro p hp
  have hp1 : upd H p (.lst (ps.map V.str)) p = some (.lst (ps.map V.str)) := upd_same
  have hk1 : Kp [] H (upd H p (.lst (ps.map V.str))) := Kp.refl.new hp
  generalize upd H p (.lst (ps.map V.str)) = H1 at hp1 hk1
  -- the errors, wherever they come
  have bad : ∀ (v : Int), xBadDump a (.int v) E H → ∀ H', Kp [] H H' → ∀ d, H' d = none → E (.ref a.BadDump) (some d) (upd H' d (.xd [("part", .int v)])) := fun v hx H' hk d hd => hx d _ (hk.free hd) upd_same (hk.new hd)
  walk_at "w"
  refine ⟨_, rfl, hpi 0 hp0, fun us hus r H2 hr hk2 hr2 => ?_, fun hno H2 hk2 => ?_⟩
  · have hul := hus.len
    have hk02 := hk1.trans hk2
    have hp2 : H2 p = some (.lst (ps.map V.str)) := hk2.at0 hp1
    walk_at "w"
    refine s_cut (fun σ' H' => Kp [] H2 H' ∧ ((∃ ls q, 1 < ps.length ∧ RdL ((us.length : Int) - 1) (ps.getD 1 default) ls ∧ H' q = some (.lst (ls.map V.int)) ∧ σ' = [some (.str z), some (.ref p), some (.ref r), some (.int ((us.length : Int) - 1)), some (.ref q), none, none, none]) ∨ ((1 < ps.length → ∀ ls, ¬RdL ((us.length : Int) - 1) (ps.getD 1 default) ls) ∧ σ' = [some (.str z), some (.ref p), some (.ref r), some (.int ((us.length : Int) - 1)), some .non, none, none, none]))) ?_ ?_
    · walk_at "w"
      refine w_ite (fun c => ?_) (fun c => ?_)
      · walk_at "w"
        refine ⟨_, _, rfl, hpi 1 (by omega), fun ls hls q H3 hq hk3 hq3 => ?_, fun hno H3 hk3 => ?_⟩
        · walk_at "w"
          exact ⟨hk3, .inl ⟨ls, q, by omega, hls, hq3, rfl⟩⟩
        · walk_at "w"
          exact ⟨hk3, .inr ⟨fun _ => hno, rfl⟩⟩
      · walk_at "w"
        exact ⟨Kp.refl, .inr ⟨fun z => absurd z (by omega), rfl⟩⟩
    · rintro σ' H3 ⟨hk3, hcase⟩
      have hk03 := hk02.trans hk3
      have hp3 : H3 p = some (.lst (ps.map V.str)) := hk3.at0 hp2
      rcases hcase with ⟨ls, q, hl1, hls, hq3, rfl⟩ | ⟨hno, rfl⟩
      · have hll : (ls.length : Int) = us.length := by have := hls.2.1; omega
        walk_at "w"
        refine s_cut (fun σ' H' => Kp [] H3 H' ∧ ((∃ os t, 2 < ps.length ∧ RdO ((us.length : Int) - 1) (ps.getD 2 default) os ∧ H' t = some (.lst (os.map V.int)) ∧ σ' = [some (.str z), some (.ref p), some (.ref r), some (.int ((us.length : Int) - 1)), some (.ref q), some (.ref t), none, none]) ∨ ((2 < ps.length → ∀ os, ¬RdO ((us.length : Int) - 1) (ps.getD 2 default) os) ∧ σ' = [some (.str z), some (.ref p), some (.ref r), some (.int ((us.length : Int) - 1)), some (.ref q), some .non, none, none]))) ?_ ?_
        · walk_at "w"
          refine w_ite (fun c => ?_) (fun c => ?_)
          · walk_at "w"
            refine ⟨_, _, rfl, hpi 2 (by omega), fun os hos t H4 ht hk4 ht4 => ?_, fun hno H4 hk4 => ?_⟩
            · walk_at "w"
              exact ⟨hk4, .inl ⟨os, t, by omega, hos, ht4, rfl⟩⟩
            · walk_at "w"
              exact ⟨hk4, .inr ⟨fun _ => hno, rfl⟩⟩
          · walk_at "w"
            exact ⟨Kp.refl, .inr ⟨fun z => absurd z (by omega), rfl⟩⟩
        · rintro σ' H4 ⟨hk4, hcase⟩
          have hk04 := hk03.trans hk4
          have hp4 : H4 p = some (.lst (ps.map V.str)) := hk4.at0 hp3
          rcases hcase with ⟨os, t, hl2, hos, ht4, rfl⟩ | ⟨hno, rfl⟩
          · have hom := outsOk_mem hos.ok
            walk_at "w"
            refine w_ite (fun c => ?_) (fun c => ?_)
            · walk_at "w"
              exact ⟨rfl, fun d hd => bad 3 (e3 us ls os hus hl1 hls hl2 hos (by omega)) H4 hk04 d hd⟩
            · have hgo := h0 us ls os hus hl1 hls hl2 hos (by omega)
              have hq4 : H4 q = some (.lst (ls.map V.int)) := hk4.at0 hq3
              have hr4 : H4 r = some (.lst (us.map V.int)) := hk4.at0 (hk3.at0 hr2)
              walk_at "w"
              intro g0 hg0
              walk_at "w"
              intro g hg
              have g00 : H g = none := hk04.free (upd_nil hg)
              have g01 : H g0 = none := hk04.free hg0
              have hk5 : Kp [] H (upd (upd H4 g0 (.lst [.bl false])) g (.lst ((List.replicate ((us.length : Int) - 1 + 2).toNat false).map V.bl))) := (hk04.own g01).own g00
              have t1 : t ≠ g := ne_of_none (by walk_at "hp") hg
              have q1 : q ≠ g := ne_of_none (by walk_at "hp") hg
              have r1 : r ≠ g := ne_of_none (by walk_at "hp") hg
              have k45 : ∀ b o, H4 b = some o → b ≠ g → upd (upd H4 g0 (.lst [.bl false])) g (.lst ((List.replicate ((us.length : Int) - 1 + 2).toNat false).map V.bl)) b = some o := fun b o e n => upd_get n (upd_new hg0 e)
              walk_at "w"
              refine w_forM (us := os) (f := V.int) (p := t) (by walk_at "hp") (fun i σ' H' => (∃ x, σ' = [some (.str z), some (.ref p), some (.ref r), some (.int ((us.length : Int) - 1)), some (.ref q), some (.ref t), some (.ref g), x]) ∧ Kp [] H H' ∧ H' g = some (.lst ((flagsOf ((us.length : Int) - 1) (os.take i)).map V.bl)) ∧ H' t = some (.lst (os.map V.int)) ∧ H' q = some (.lst (ls.map V.int)) ∧ H' r = some (.lst (us.map V.int))) ⟨⟨_, rfl⟩, hk5, upd_same, k45 t _ ht4 t1, k45 q _ hq4 q1, k45 r _ hr4 r1⟩ (fun i σ' H' _ q => q.2.2.2.1) ?_ ?_
              · rintro i u σ' H' hu ⟨⟨x, rfl⟩, hk, hF, hT, hQ, hR⟩
                have hub := hom u (List.mem_of_getElem? hu)
                have hfl := flagsOf_len ((us.length : Int) - 1) (os.take i)
                walk_at "w"
                rw [take_snoc hu, flagsOf_snoc]
                exact ⟨⟨_, rfl⟩, hk.own g00, upd_same, upd_get t1 hT, upd_get q1 hQ, upd_get r1 hR⟩
              · rintro σ' H' ⟨⟨x, rfl⟩, hk, hF, hT, hQ, hR⟩
                rw [List.take_length] at hF
                walk_at "w"
                intro m hm
                walk_at "w"
                intro m2 hm2
                walk_at "w"
                intro m3 hm3
                walk_at "w"
                intro m4 hm4
                walk_at "w"
                refine ⟨_, m2, m4, g, -1 :: ls, us ++ [(us.length : Int) - 1 + 2], flagsOf ((us.length : Int) - 1) os, rfl, by omega, by omega, by walk_at "hp", by walk_at "hp", by walk_at "hp", ?_⟩
                intro x' l' r' f' H9 hx9 hl9 hr9 hf9 hL hk9
                have kk : Kp [] H (upd (upd (upd (upd H' m (.lst [.int (-1)])) m2 (.lst ((-1 :: ls).map V.int))) m3 (.lst [.int ((us.length : Int) - 1 + 2)])) m4 (.lst ((us ++ [(us.length : Int) - 1 + 2]).map V.int))) := (((hk.new hm).new hm2).new hm3).new hm4
                exact hgo x' l' r' f' H9 (kk.free hx9) (kk.free hl9) (kk.free hr9) (kk.free hf9) hL (kk.trans hk9)
          · walk_at "w"
            exact ⟨rfl, fun d hd => bad 2 (e2 us ls hus hl1 hls hno) H4 hk04 d hd⟩
      · walk_at "w"
        exact ⟨rfl, fun d hd => bad 1 (e1 us hus hno) H3 hk03 d hd⟩
  · walk_at "w"
    exact ⟨rfl, fun d hd => bad 0 (e0 hno) H2 (hk1.trans hk2) d hd⟩

/-! ### the text of a standing -/
def outL (n : Int) (F : List Bool) : List Int := (List.range n.toNat).filterMap fun i : Nat => if F.getD (i + 1) default = true then some (1 + (i : Int)) else none
def goneT (n : Int) (F : List Bool) : Str := if outL n F = [] then "none" else Txt.join " " ((outL n F).map strI)
def textOf (n : Int) (R L : List Int) (F : List Bool) : Str := Txt.join " " (R.map strI) ++ " | " ++ Txt.join " " ((L.drop 1).map strI) ++ " | " ++ goneT n F
/-- a standing as the law draws it -/
structure WF (n : Int) (R L : List Int) (F : List Bool) : Prop where
  n0 : 0 ≤ n
  n1 : n ≤ 60
  hR : R.length = (n + 1).toNat
  hL : L.length = (n + 2).toNat
  hF : F.length = (n + 2).toNat
  r : ∀ (i : Nat) (u : Int), R[i]? = some u → (i : Int) < u ∧ u ≤ n + 1
  l0 : L[0]? = some (-1)
  l : ∀ (i : Nat) (u : Int), 1 ≤ i → L[i]? = some u → 0 ≤ u ∧ u < (i : Int)
  f0 : F.getD 0 default = false
  f1 : F.getD (n + 1).toNat default = false
theorem outL_mem {n : Int} {F : List Bool} {u : Int} (h : u ∈ outL n F) : 1 ≤ u ∧ u ≤ n ∧ F.getD u.toNat default = true := by
  unfold outL at h
  rw [List.mem_filterMap] at h
  obtain ⟨i, hi, e⟩ := h
  rw [List.mem_range] at hi
  split at e
  · rename_i q
    cases e
    refine ⟨by omega, by omega, ?_⟩
    rw [show (1 + (i : Int)).toNat = i + 1 by omega]
    exact q
  · cases e
theorem outL_len (n : Int) (F : List Bool) : (outL n F).length ≤ n.toNat := by
  have := fm_len (fun i : Nat => if F.getD (i + 1) default = true then some (1 + (i : Int)) else none) (List.range n.toNat)
  rw [List.length_range] at this
  exact this
/-- the outs from 1 to k -/
def outK (F : List Bool) (k : Nat) : List Int := (List.range k).filterMap fun i : Nat => if F.getD (i + 1) default = true then some (1 + (i : Int)) else none
theorem outK_succ (F : List Bool) (k : Nat) : outK F (k + 1) = outK F k ++ (if F.getD (k + 1) default = true then [1 + (k : Int)] else []) := by
  unfold outK
  rw [List.range_succ, List.filterMap_append]
  congr 1
  rw [List.filterMap_cons, List.filterMap_nil]
  by_cases z : F.getD (k + 1) default = true
  · rw [if_pos z, if_pos z]
  · rw [if_neg z, if_neg z]
theorem outK_last (F : List Bool) : ∀ k : Nat, (outK F k).getLastD 0 ≤ (k : Int) ∧ 0 ≤ (outK F k).getLastD 0
  | 0 => by simp [outK]
  | k + 1 => by
    have := outK_last F k
    rw [outK_succ]
    split
    · simp; omega
    · rw [List.append_nil]; omega
theorem outK_ok {n : Int} (F : List Bool) : ∀ k : Nat, (k : Int) ≤ n → outsOk n 0 (outK F k)
  | 0, _ => trivial
  | k + 1, h => by
    have ih := outK_ok (n := n) F k (by omega)
    rw [outK_succ]
    split
    · rw [outsOk_snoc]
      have := outK_last F k
      exact ⟨ih, by omega, by omega⟩
    · rw [List.append_nil]; exact ih
theorem outL_ok {n : Int} (n0 : 0 ≤ n) (F : List Bool) : outsOk n 0 (outL n F) := outK_ok F n.toNat (by omega)
theorem getD_set_eq {α : Type} [Inhabited α] {us : List α} {i : Nat} {u : α} (h : i < us.length) : (us.set i u).getD i default = u := by
  simp [List.getD, h]
theorem getD_set_ne {α : Type} [Inhabited α] {us : List α} {i j : Nat} {u : α} (h : i ≠ j) : (us.set i u).getD j default = us.getD j default := by
  simp [List.getD, List.getElem?_set_ne h]
theorem flagsOf_outK {n : Int} (n0 : 0 ≤ n) (F : List Bool) : ∀ k : Nat, (k : Int) ≤ n → ∀ j : Nat, j < (n + 2).toNat → (flagsOf n (outK F k)).getD j default = if 1 ≤ j ∧ j ≤ k then F.getD j default else false
  | 0, _, j, hj => by
    rw [if_neg (by omega)]
    show (List.replicate (n + 2).toNat false).getD j default = false
    simp [List.getD, List.getElem?_replicate]
    split <;> rfl
  | k + 1, h, j, hj => by
    have ih := flagsOf_outK n0 F k (by omega) j hj
    have hl := flagsOf_len n (outK F k)
    rw [outK_succ]
    by_cases z : F.getD (k + 1) default = true
    · rw [if_pos z, flagsOf_snoc, show (1 + (k : Int)).toNat = k + 1 by omega]
      by_cases q : j = k + 1
      · subst q
        rw [if_pos ⟨by omega, Nat.le_refl _⟩, z]
        exact getD_set_eq (by rw [hl]; omega)
      · have e : ((flagsOf n (outK F k)).set (k + 1) true).getD j default = (flagsOf n (outK F k)).getD j default := by
          exact getD_set_ne (fun y => q y.symm)
        rw [e, ih]
        by_cases q2 : 1 ≤ j ∧ j ≤ k
        · rw [if_pos q2, if_pos ⟨q2.1, by omega⟩]
        · rw [if_neg q2, if_neg (fun y => q2 ⟨y.1, by omega⟩)]
    · rw [if_neg z, List.append_nil, ih]
      by_cases q : j = k + 1
      · subst q
        rw [if_neg (by omega), if_pos ⟨by omega, Nat.le_refl _⟩]
        cases y : F.getD (k + 1) default with
        | true => exact absurd y z
        | false => rfl
      · by_cases q2 : 1 ≤ j ∧ j ≤ k
        · rw [if_pos q2, if_pos ⟨q2.1, by omega⟩]
        · rw [if_neg q2, if_neg (fun y => q2 ⟨y.1, by omega⟩)]
theorem getD_ext {α : Type} [Inhabited α] {us vs : List α} (hl : us.length = vs.length) (h : ∀ j, j < us.length → us.getD j default = vs.getD j default) : us = vs := by
  apply List.ext_getElem hl
  intro i h1 h2
  have := h i h1
  simpa [List.getD, List.getElem?_eq_getElem h1, List.getElem?_eq_getElem h2] using this
theorem flags_back {n : Int} {R L : List Int} {F : List Bool} (w : WF n R L F) : flagsOf n (outL n F) = F := by
  have hl := flagsOf_len n (outL n F)
  refine getD_ext (by rw [hl, w.hF]) fun j hj => ?_
  rw [hl] at hj
  have e := flagsOf_outK w.n0 F n.toNat (by have := w.n0; omega) j hj
  have e2 : outK F n.toNat = outL n F := rfl
  rw [e2] at e
  rw [e]
  by_cases q : 1 ≤ j ∧ j ≤ n.toNat
  · rw [if_pos q]
  · rw [if_neg q]
    by_cases z : j = 0
    · subst z; exact w.f0.symm
    · have : j = (n + 1).toNat := by have := w.n0; omega
      rw [this]; exact w.f1.symm
theorem none_free : 124 ∉ TL.tl ("none" : Str) := by decide +kernel
theorem none_ne {us : List Int} (hne : us ≠ []) (h : ∀ u ∈ us, 0 ≤ u) : Txt.join " " (us.map strI) ≠ ("none" : Str) := by
  intro e
  cases us with
  | nil => exact hne rfl
  | cons u us =>
    have e2 := congrArg TL.tl e
    have e3 : TL.tl ("none" : Str) = [110, 111, 110, 101] := by decide +kernel
    rw [TL.join_eq, TL.tl_join, e3] at e2
    have h0 := tl_strI (h u List.mem_cons_self)
    have hne := TL.numL_ne u.toNat
    have hd := TL.numL_digits u.toNat
    cases q : TL.numL u.toNat with
    | nil => exact hne q
    | cons c r =>
      have hc : 48 ≤ c ∧ c ≤ 57 := hd c (by rw [q]; exact List.mem_cons_self)
      cases us with
      | nil =>
        have e4 : TL.tl (strI u) = [110, 111, 110, 101] := e2
        rw [h0, q] at e4
        injection e4 with e5
        omega
      | cons v vs =>
        have e4 : TL.tl (strI u) ++ (TL.tl " " ++ TL.joinL (TL.tl " ") ((v :: vs).map fun x => TL.tl (strI x))) = [110, 111, 110, 101] := by
          rw [← e2]
          simp only [List.map_cons, List.map_map]
          rfl
        rw [h0, q, List.cons_append] at e4
        injection e4 with e5
        omega
theorem WF.rs {n : Int} {R L : List Int} {F : List Bool} (w : WF n R L F) : ∀ u ∈ R, 0 ≤ u ∧ u < 1000000000 := by
  intro u hu
  obtain ⟨i, hi, rfl⟩ := List.getElem_of_mem hu
  have := w.r i _ (List.getElem?_eq_getElem hi)
  have := w.n1
  omega
theorem WF.ls {n : Int} {R L : List Int} {F : List Bool} (w : WF n R L F) : ∀ u ∈ L.drop 1, 0 ≤ u ∧ u < 1000000000 := by
  intro u hu
  obtain ⟨i, hi, rfl⟩ := List.getElem_of_mem hu
  have e : (L.drop 1)[i]? = L[1 + i]? := List.getElem?_drop ..
  rw [List.getElem?_eq_getElem hi] at e
  have h1 := w.l (1 + i) _ (by omega) e.symm
  have hl := w.hL
  have := w.n1
  rw [List.length_drop] at hi
  omega
theorem WF.os {n : Int} {R L : List Int} {F : List Bool} (w : WF n R L F) : ∀ u ∈ outL n F, 0 ≤ u ∧ u < 1000000000 := by
  intro u hu
  have := outL_mem hu
  have := w.n1
  omega
/-- the read-back -/
theorem text_parts {n : Int} {R L : List Int} {F : List Bool} (w : WF n R L F) : Txt.split (textOf n R L F) " | " = [Txt.join " " (R.map strI), Txt.join " " ((L.drop 1).map strI), goneT n F] := by
  unfold textOf
  refine split_three (no_bar fun u hu => (w.rs u hu).1) (no_bar fun u hu => (w.ls u hu).1) ?_
  unfold goneT
  split
  · exact none_free
  · exact no_bar fun u hu => (w.os u hu).1
theorem WF.rne {n : Int} {R L : List Int} {F : List Bool} (w : WF n R L F) : R ≠ [] := by
  intro e
  have h := w.hR
  have := w.n0
  rw [e] at h
  simp at h
  omega
theorem WF.lne {n : Int} {R L : List Int} {F : List Bool} (w : WF n R L F) : L.drop 1 ≠ [] := by
  intro e
  have h := congrArg List.length e
  rw [List.length_drop, w.hL] at h
  have := w.n0
  simp at h
  omega
theorem text_r {n : Int} {R L : List Int} {F : List Bool} (w : WF n R L F) : RdR (Txt.join " " (R.map strI)) R := by
  refine ⟨numsOf_join w.rne w.rs, ?_, fun i u hu => ?_⟩
  · have := w.hR; have := w.n1; omega
  · have := w.r i u hu
    have := w.hR
    have := w.n0
    omega
theorem text_l {n : Int} {R L : List Int} {F : List Bool} (w : WF n R L F) : RdL n (Txt.join " " ((L.drop 1).map strI)) (L.drop 1) := by
  refine ⟨numsOf_join w.lne w.ls, ?_, fun i u hu => ?_⟩
  · rw [List.length_drop, w.hL]; have := w.n0; omega
  · rw [List.getElem?_drop] at hu
    have := w.l (1 + i) u (by omega) hu
    omega
theorem text_o {n : Int} {R L : List Int} {F : List Bool} (w : WF n R L F) : RdO n (goneT n F) (outL n F) := by
  unfold goneT
  split
  · rename_i h
    exact .inl ⟨rfl, h⟩
  · rename_i h
    exact .inr ⟨none_ne h (fun u hu => (w.os u hu).1), numsOf_join h w.os, outL_ok w.n0 F⟩
theorem WF.lcons {n : Int} {R L : List Int} {F : List Bool} (w : WF n R L F) : -1 :: L.drop 1 = L := by
  cases e : L with
  | nil => have := w.l0; rw [e] at this; cases this
  | cons c t =>
    have := w.l0
    rw [e] at this
    cases this
    rfl
theorem text_len {n : Int} {R L : List Int} {F : List Bool} (w : WF n R L F) : (textOf n R L F).length ≤ 10000 ∧ (Txt.join " " (R.map strI)).length ≤ 610 ∧ (Txt.join " " ((L.drop 1).map strI)).length ≤ 610 ∧ (goneT n F).length ≤ 610 := by
  have h1 := (nums_len w.rs).1
  have h2 := (nums_len w.ls).1
  have h3 := (nums_len w.os).1
  have h4 := outL_len n F
  have := w.hR
  have := w.hL
  have := w.n1
  have hg : (goneT n F).length ≤ 610 := by
    unfold goneT
    split
    · show ("none" : Str).length ≤ 610
      have : ("none" : Str).length = 4 := by decide +kernel
      omega
    · omega
  rw [List.length_drop] at h2
  have hb : (" | " : Str).length = 3 := by decide +kernel
  refine ⟨?_, by omega, by omega, hg⟩
  unfold textOf
  rw [len_app, len_app, len_app, len_app, hb]
  omega
/-- what Links.read makes of the text -/
theorem read_text {a : AD} {n : Int} {R L : List Int} {F : List Bool} {H : Hp} {Q : VK} {E : XK} (w : WF n R L F) (k : newSp a n L (R ++ [n + 2]) F H Q) : readSp a (Txt.split (textOf n R L F) " | ") H Q E := by
  rw [text_parts w]
  have hr := text_r w
  have hl := text_l w
  have ho := text_o w
  have hn : (R.length : Int) - 1 = n := by have := w.hR; have := w.n0; omega
  have ur : ∀ us, RdR (Txt.join " " (R.map strI)) us → us = R := fun us h => by
    have := h.1
    rw [hr.1] at this
    exact (Option.some.inj this).symm
  have ul : ∀ us, RdL n (Txt.join " " ((L.drop 1).map strI)) us → us = L.drop 1 := fun us h => by
    have := h.1
    rw [hl.1] at this
    exact (Option.some.inj this).symm
  have uo : ∀ us, RdO n (goneT n F) us → us = outL n F := fun us h => by
    rcases h with ⟨e1, e2⟩ | ⟨e1, e2, _⟩ <;> rcases ho with ⟨d1, d2⟩ | ⟨d1, d2, _⟩
    · rw [e2, d2]
    · exact absurd e1 d1
    · exact absurd d1 e1
    · rw [d2] at e2
      exact (Option.some.inj e2).symm
  refine ⟨fun us ls os h1 _ h2 _ h3 _ => ?_, fun h => absurd hr (h R), fun us h1 h => ?_, fun us ls h1 _ h2 h => ?_, fun us ls os _ _ _ _ _ h => ?_⟩
  · have e1 := ur us h1
    subst e1
    rw [hn] at h2 h3 ⊢
    have e2 := ul ls h2
    have e3 := uo os h3
    subst e2 e3
    rw [w.lcons, flags_back w]
    exact k
  · have e1 := ur us h1
    subst e1
    rw [hn] at h
    exact absurd hl (h (by simp) _)
  · have e1 := ur us h1
    subst e1
    rw [hn] at h
    exact absurd ho (h (by simp) _)
  · simp at h

theorem fm_congr {α β : Type} {f g : α → Option β} : ∀ {l : List α}, (∀ x ∈ l, f x = g x) → l.filterMap f = l.filterMap g
  | [], _ => rfl
  | x :: l, h => by
    rw [List.filterMap_cons, List.filterMap_cons, h x List.mem_cons_self, fm_congr (fun y hy => h y (List.mem_cons_of_mem _ hy))]
/-! ### the dump -/
theorem cut_last {α : Type} {xs : List α} {x : α} : cut (xs ++ [x]) none (some (-1)) = xs := by
  unfold cut
  simp [HT.sIx]
  rw [show (-1 + ((xs.length : Int) + 1)).toNat = xs.length by omega, List.take_left]
theorem cut_tail {α : Type} {xs : List α} : cut xs (some 1) none = xs.drop 1 := by
  unfold cut
  simp only [HT.sIx]
  rw [if_neg (by decide)]
  cases xs with
  | nil => simp
  | cons x xs =>
    rw [show min (1 : Int).toNat (x :: xs).length = 1 by simp]
    simp
/-- the three parts -/
def sp_Links__dump_parts (a : AD) : Sp := fun vs H Q E => ∃ (x l r f : Addr) (n : Int) (L R : List Int) (F : List Bool), vs = [.ref x] ∧ Lnk a H x l r f n L (R ++ [n + 2]) F ∧ WF n R L F ∧ ∀ p H', H p = none → Kp [] H H' → H' p = some (.lst ([Txt.join " " (R.map strI), Txt.join " " ((L.drop 1).map strI), goneT n F].map V.str)) → Q (.ref p) H'
theorem sc_Links__dump_parts : FnScope ["self", "link", "rights", "lefts", "node", "outs"] ["self"] (defScope s_Links__dump_parts) := ⟨rfl, rfl, rfl, by decide +kernel, rfl, by decide +kernel, by decide +kernel⟩
theorem ok_Links__dump_parts {P : Program} {w : World} {K : PySem.W.Frag} {mg : Str → Option Value} {base : Heap} {a : AD} (T : Txt P K mg a) : FnA P w K mg base 2 a.f_Links__dump_parts ["self"] (sp_Links__dump_parts a) := by
  obtain ⟨fd, F, b⟩ := T.F_Links__dump_parts
  refine FnA.of F sc_Links__dump_parts b (fun vs H Q E h => by first | (obtain ⟨rfl, _⟩ := h; rfl) | (obtain ⟨_, rfl, _⟩ := h; rfl) | (obtain ⟨_, _, rfl, _⟩ := h; rfl) | (obtain ⟨_, _, _, rfl, _⟩ := h; rfl) | (obtain ⟨_, _, _, _, rfl, _⟩ := h; rfl) | (obtain ⟨_, _, _, _, _, rfl, _⟩ := h; rfl) | (obtain ⟨_, _, _, _, _, _, rfl, _⟩ := h; rfl) | (obtain ⟨_, _, _, _, _, _, _, rfl, _⟩ := h; rfl) | (obtain ⟨_, _, _, _, _, _, _, _, rfl, _⟩ := h; rfl) | (obtain ⟨_, _, _, _, _, _, _, _, _, rfl, _⟩ := h; rfl) | (obtain ⟨_, _, _, _, _, _, _, _, _, _, rfl, _⟩ := h; rfl) | (obtain ⟨_, _, _, _, _, _, _, _, _, _, _, rfl, _⟩ := h; rfl) | (obtain ⟨_, _, _, _, _, _, _, _, _, _, _, _, rfl, _⟩ := h; rfl) | (obtain ⟨_, _, _, _, _, _, _, _, _, _, _, _, _, rfl, _⟩ := h; rfl) | (obtain ⟨_, _, _, _, _, _, _, _, _, _, _, _, _, _, rfl, _⟩ := h; rfl) | (obtain ⟨_, _, _, _, _, _, _, _, _, _, _, _, _, _, _, rfl, _⟩ := h; rfl) | (obtain ⟨_, _, _, _, _, _, _, _, _, _, _, _, _, _, _, _, rfl, _⟩ := h; rfl) | (obtain ⟨_, _, _, _, _, _, _, _, _, _, _, _, _, _, _, _, _, rfl, _⟩ := h; rfl) | (obtain ⟨_, _, _, _, _, _, _, _, _, _, _, _, _, _, _, _, _, _, rfl, _⟩ := h; rfl) | (obtain ⟨_, _, _, _, _, _, _, _, _, _, _, _, _, _, _, _, _, _, _, rfl, _⟩ := h; rfl) | (obtain ⟨_, _, _, _, _, _, _, _, _, _, _, _, _, _, _, _, _, _, _, _, rfl, _⟩ := h; rfl) | (obtain ⟨_, _, _, _, _, _, _, _, _, _, _, _, _, _, _, _, _, _, _, _, _, rfl, _⟩ := h; rfl) | (obtain ⟨_, _, _, _, _, _, _, _, _, _, _, _, _, _, _, _, _, _, _, _, _, _, rfl, _⟩ := h; rfl) | (obtain ⟨_, _, _, _, _, _, _, _, _, _, _, _, _, _, _, _, _, _, _, _, _, _, _, rfl, _⟩ := h; rfl)) (fun cdv A outer s H vs Q E hr tk pz h => ?_)
  have hu := hr.units
  have hrH := L2H.roomH_of hr
  obtain ⟨x, l, r, f, n, L, R, F, rfl, hL, w, k⟩ := h
  obtain ⟨⟨dx, hx⟩, hl, hr', hf, _⟩ := id hL
  have n0 := w.n0
  have n1 := w.n1
  have w1 := w.hR
  have w2 := w.hL
  have w3 := w.hF
  refine ⟨_, (pss_cons (ps_setLc (i := 2) (own := [("link", 1)]) (g := (gName 1)) (tt := tYes) rfl sc_Links__dump_parts.nd rfl rfl (sw_true rfl rfl rfl (by decide +kernel)) (pi_list (pe_slice sl_any (pe_fld (pv 0) rfl) po_none (po_some (pe_un un_neg pe_int)))) (blkOk_by (own := [("link", 1)]) (N := ["self", "link", "rights", "lefts", "node", "outs"]) (sc := defScope s_Links__dump_parts) (by decide +kernel)) (fun _ _ _ _ _ => (pg_name (i := 1) sc_Links__dump_parts.nd rfl (Or.inl rfl))) (fun _ _ _ _ _ => pts_nil) (fun _ _ _ _ _ => (pe_callTy b_str rfl T.b_str (by decide +kernel) (pa_cons (pv 1) pa_nil))))
      (pss_cons (ps_setLc (i := 3) (own := [("link", 1)]) (g := (gName 1)) (tt := tYes) rfl sc_Links__dump_parts.nd rfl rfl (sw_true rfl rfl rfl (by decide +kernel)) (pi_list (pe_slice sl_any (pe_fld (pv 0) rfl) (po_some pe_int) po_none)) (blkOk_by (own := [("link", 1)]) (N := ["self", "link", "rights", "lefts", "node", "outs"]) (sc := defScope s_Links__dump_parts) (by decide +kernel)) (fun _ _ _ _ _ => (pg_name (i := 1) sc_Links__dump_parts.nd rfl (Or.inl rfl))) (fun _ _ _ _ _ => pts_nil) (fun _ _ _ _ _ => (pe_callTy b_str rfl T.b_str (by decide +kernel) (pa_cons (pv 1) pa_nil))))
      (pss_cons (ps_setLc (i := 5) (own := [("node", 4)]) (g := (gName 4)) rfl sc_Links__dump_parts.nd rfl rfl (sw_true rfl rfl rfl (by decide +kernel)) (pi_range2 rfl T.b_range (pa_cons pe_int (pa_cons (pe_op o_add (pe_fld (pv 0) rfl) pe_int) pa_nil))) (blkOk_by (own := [("node", 4)]) (N := ["self", "link", "rights", "lefts", "node", "outs"]) (sc := defScope s_Links__dump_parts) (by decide +kernel)) (fun _ _ _ _ _ => (pg_name (i := 4) sc_Links__dump_parts.nd rfl (Or.inl rfl))) (fun _ _ _ _ _ => (pts_one (show PT _ _ (cTru K _) from (pt_tru (pe_ix (show IxR _ (rIx K) from ix_seq) (show PE _ _ (tFld K _ _) from (pe_fld (pv 0) rfl)) (pv 4) (fun _ _ => rfl)))))) (fun _ _ _ _ _ => (pe_callTy b_str rfl T.b_str (by decide +kernel) (pa_cons (pv 4) pa_nil))))
      (pss_one (ps_ret (pe_lst (pa_cons (pe_bm PySem.F.plainAttrs_str PySem.F.slot_str_join PySem.F.type_str_join m_join pe_str (pa_cons (pv 2) pa_nil)) (pa_cons (pe_bm PySem.F.plainAttrs_str PySem.F.slot_str_join PySem.F.type_str_join m_join pe_str (pa_cons (pv 3) pa_nil)) (pa_cons (pe_ifExp (pt_cmpA op_gt (pe_callB (b_len) rfl T.b_len (by decide +kernel) (pa_cons (pv 5) pa_nil)) pe_int (nomark _)) (pe_bm PySem.F.plainAttrs_str PySem.F.slot_str_join PySem.F.type_str_join m_join pe_str (pa_cons (pv 5) pa_nil)) pe_str) pa_nil))))))))), ?_⟩
  show (_ : Ends → L2.St → Hp → Prop) _ [some _, none, none, none, none, none] _
  try dsimp only [L2H.cxH, cxOf]
  walk_at "w"
  rw [cut_last]
  intro r1 hr1
  have kr : Kp [] H (upd H r1 (.lst (R.map V.int))) := Kp.refl.new hr1
  have hr11 : upd H r1 (.lst (R.map V.int)) r1 = some (.lst (R.map V.int)) := upd_same
  generalize upd H r1 (.lst (R.map V.int)) = H1 at kr hr11
  refine w_lcM (us := R) (f := V.int) (f' := V.str) (fun o => some (strI o)) hr11 (by rw [sizeLine_eq]; omega) ?_ ?_
  · intro D i u acc H' hD hu hk hA hlen
    have hub := w.rs u (List.mem_of_getElem? hu)
    walk_at "w"
    refine ⟨rfl, ?_⟩
    walk_at "w"
    exact w_keep hk hA hlen hD rfl
  · intro d1 H2 hd1 hk2 hA2
    rw [fm_some] at hA2
    have k2 := kr.trans hk2
    have hx2 := k2.at0 hx
    have hl2 := k2.at0 hl
    have hf2 := k2.at0 hf
    walk_at "w"
    rw [cut_tail]
    intro r3 hr3
    have d13 : d1 ≠ r3 := ne_of_none hA2 hr3
    have k3 : Kp [] H (upd H2 r3 (.lst ((L.drop 1).map V.int))) := k2.new hr3
    have hr33 : upd H2 r3 (.lst ((L.drop 1).map V.int)) r3 = some (.lst ((L.drop 1).map V.int)) := upd_same
    have hd3 : upd H2 r3 (.lst ((L.drop 1).map V.int)) d1 = some (.lst ((R.map strI).map V.str)) := upd_get d13 hA2
    generalize upd H2 r3 (.lst ((L.drop 1).map V.int)) = H3 at k3 hr33 hd3
    refine w_lcM (us := L.drop 1) (f := V.int) (f' := V.str) (fun o => some (strI o)) hr33 (by rw [sizeLine_eq, List.length_drop]; omega) ?_ ?_
    · intro D i u acc H' hD hu hk hA hlen
      have hub := w.ls u (List.mem_of_getElem? hu)
      walk_at "w"
      refine ⟨rfl, ?_⟩
      walk_at "w"
      exact w_keep hk hA hlen hD rfl
    · intro d2 H4 hd2 hk4 hA4
      rw [fm_some] at hA4
      have hd14 := hk4.at0 hd3
      have k4 := k3.trans hk4
      have hx4 := k4.at0 hx
      have hf4 := k4.at0 hf
      walk_at "w"
      refine w_lcR2 (f' := V.str) (fun i : Nat => if F.getD (i + 1) default = true then some (strI (1 + (i : Int))) else none) (lo := 1) (n := n + 1) (by omega) (by omega) (by omega) (by omega) (by rw [sizeLine_eq]; omega) ?_ ?_
      · intro D i acc H' hD hi hk hA hlen
        have hx5 := hk.at0 hx4
        have hf5 := hk.at0 hf4
        walk_at "w"
        refine ⟨rfl, ?_⟩
        walk_at "w"
        rw [show (1 + (i : Int)).toNat = i + 1 by omega]
        refine w_iteb (fun c => ?_) (fun c => ?_)
        · walk_at "w"
          exact w_keep hk hA hlen hD (by rw [if_pos c]; rfl)
        · walk_at "w"
          exact w_drop hk hA (by rw [if_neg (by rw [c]; exact Bool.false_ne_true)])
      · intro d3 H5 hd3' hk5 hA5
        have eo : (List.range (n + 1 - 1).toNat).filterMap (fun i : Nat => if F.getD (i + 1) default = true then some (strI (1 + (i : Int))) else none) = (outL n F).map strI := by
          unfold outL
          rw [List.map_filterMap, show (n + 1 - 1).toNat = n.toNat by omega]
          apply fm_congr
          intro i _
          split <;> rfl
        rw [eo] at hA5
        have hd15 := hk5.at0 hd14
        have hd25 := hk5.at0 hA4
        have k5 := k4.trans hk5
        have s1 := (nums_len w.rs).2
        have s2 := (nums_len w.ls).2
        have s3 := (nums_len w.os).2
        have ol := outL_len n F
        have sp1 : (" " : Str).length = 1 := by decide +kernel
        have b1 : ((R.map strI).map (·.length)).sum + (R.map strI).length * (" " : Str).length ≤ 16777216 := by rw [sp1, List.length_map]; omega
        have b2 : (((L.drop 1).map strI).map (·.length)).sum + ((L.drop 1).map strI).length * (" " : Str).length ≤ 16777216 := by rw [sp1, List.length_map]; rw [List.length_drop] at s2 ⊢; omega
        have b3 : (((outL n F).map strI).map (·.length)).sum + ((outL n F).map strI).length * (" " : Str).length ≤ 16777216 := by rw [sp1, List.length_map]; omega
        walk_at "w"
        unfold goneT at k
        refine w_ite (fun c => ?_) (fun c => ?_)
        · walk_at "w"
          intro p hp
          rw [if_neg (fun e => by rw [e] at c; simp at c)] at k
          exact k p _ (k5.free hp) (k5.new hp) upd_same
        · walk_at "w"
          intro p hp
          have e : outL n F = [] := by
            cases q : outL n F with
            | nil => rfl
            | cons o os => rw [q] at c; simp at c
          rw [if_pos e] at k
          exact k p _ (k5.free hp) (k5.new hp) upd_same
def sp_Links_dump (a : AD) : Sp := fun vs H Q E => ∃ (x l r f : Addr) (n : Int) (L R : List Int) (F : List Bool), vs = [.ref x] ∧ Lnk a H x l r f n L (R ++ [n + 2]) F ∧ WF n R L F ∧ ∀ H', Kp [] H H' → Q (.str (textOf n R L F)) H'
theorem sc_Links_dump : FnScope ["self"] ["self"] (defScope s_Links_dump) := ⟨rfl, rfl, rfl, by decide +kernel, rfl, by decide +kernel, by decide +kernel⟩
theorem ok_Links_dump {P : Program} {w : World} {K : PySem.W.Frag} {mg : Str → Option Value} {base : Heap} {a : AD} (T : Txt P K mg a) (G_Links__dump_parts : FnA P w K mg base 2 a.f_Links__dump_parts ["self"] (sp_Links__dump_parts a)) : FnA P w K mg base 3 a.f_Links_dump ["self"] (sp_Links_dump a) := by
  obtain ⟨fd, F, b⟩ := T.F_Links_dump
  refine FnA.of F sc_Links_dump b (fun vs H Q E h => by first | (obtain ⟨rfl, _⟩ := h; rfl) | (obtain ⟨_, rfl, _⟩ := h; rfl) | (obtain ⟨_, _, rfl, _⟩ := h; rfl) | (obtain ⟨_, _, _, rfl, _⟩ := h; rfl) | (obtain ⟨_, _, _, _, rfl, _⟩ := h; rfl) | (obtain ⟨_, _, _, _, _, rfl, _⟩ := h; rfl) | (obtain ⟨_, _, _, _, _, _, rfl, _⟩ := h; rfl) | (obtain ⟨_, _, _, _, _, _, _, rfl, _⟩ := h; rfl) | (obtain ⟨_, _, _, _, _, _, _, _, rfl, _⟩ := h; rfl) | (obtain ⟨_, _, _, _, _, _, _, _, _, rfl, _⟩ := h; rfl) | (obtain ⟨_, _, _, _, _, _, _, _, _, _, rfl, _⟩ := h; rfl) | (obtain ⟨_, _, _, _, _, _, _, _, _, _, _, rfl, _⟩ := h; rfl) | (obtain ⟨_, _, _, _, _, _, _, _, _, _, _, _, rfl, _⟩ := h; rfl) | (obtain ⟨_, _, _, _, _, _, _, _, _, _, _, _, _, rfl, _⟩ := h; rfl) | (obtain ⟨_, _, _, _, _, _, _, _, _, _, _, _, _, _, rfl, _⟩ := h; rfl) | (obtain ⟨_, _, _, _, _, _, _, _, _, _, _, _, _, _, _, rfl, _⟩ := h; rfl) | (obtain ⟨_, _, _, _, _, _, _, _, _, _, _, _, _, _, _, _, rfl, _⟩ := h; rfl) | (obtain ⟨_, _, _, _, _, _, _, _, _, _, _, _, _, _, _, _, _, rfl, _⟩ := h; rfl) | (obtain ⟨_, _, _, _, _, _, _, _, _, _, _, _, _, _, _, _, _, _, rfl, _⟩ := h; rfl) | (obtain ⟨_, _, _, _, _, _, _, _, _, _, _, _, _, _, _, _, _, _, _, rfl, _⟩ := h; rfl) | (obtain ⟨_, _, _, _, _, _, _, _, _, _, _, _, _, _, _, _, _, _, _, _, rfl, _⟩ := h; rfl) | (obtain ⟨_, _, _, _, _, _, _, _, _, _, _, _, _, _, _, _, _, _, _, _, _, rfl, _⟩ := h; rfl) | (obtain ⟨_, _, _, _, _, _, _, _, _, _, _, _, _, _, _, _, _, _, _, _, _, _, rfl, _⟩ := h; rfl) | (obtain ⟨_, _, _, _, _, _, _, _, _, _, _, _, _, _, _, _, _, _, _, _, _, _, _, rfl, _⟩ := h; rfl)) (fun cdv A outer s H vs Q E hr tk pz h => ?_)
  have hu := hr.units
  have hrH := L2H.roomH_of hr
  obtain ⟨x, l, r, f, n, L, R, F, rfl, hL, w, k⟩ := h
  have hx := hL.1.choose_spec
  refine ⟨_, (pss_one (ps_ret (pe_bm PySem.F.plainAttrs_str PySem.F.slot_str_join PySem.F.type_str_join m_join pe_str (pa_cons (pe_methS0 (pl := _) G_Links__dump_parts (Room.mono hr (by decide)) T.cl_Links T.me_Links__dump_parts tk (pv 0)) pa_nil)))), ?_⟩
  show (_ : Ends → L2.St → Hp → Prop) _ [some _] _
  try dsimp only [L2H.cxH, cxOf]
  have hb : (" | " : Str).length = 3 := by decide +kernel
  have htl := text_len w
  walk_at "w"
  refine ⟨x, l, r, f, n, L, R, F, rfl, hL, w, fun p H1 hp k1 hp1 => ?_⟩
  walk_at "w"
  refine w_join hp1 ?_ ?_
  · rw [hb]
    simp only [List.map_cons, List.map_nil, List.sum_cons, List.sum_nil, List.length_cons, List.length_nil]
    omega
  · rw [join_three]
    exact k H1 k1

/-! ### the gaps -/
def stateOf (R L : List Int) (g : Int) : Str := if R.getD g.toNat default = g + 1 then (if L.getD (g + 1).toNat default = g then "joined" else "left") else if L.getD (g + 1).toNat default = g then "right" else "lost"
/-- the object at x is what is asked, its lists as long as they should be -/
def Obj (a : AD) (H : Hp) (x l r f : Addr) (n : Int) (L R : List Int) (F : List Bool) : Prop := Lnk a H x l r f n L R F ∧ 0 ≤ n ∧ n ≤ 60 ∧ L.length = (n + 2).toNat ∧ R.length = (n + 2).toNat ∧ F.length = (n + 2).toNat
theorem Obj.kp0 {a : AD} {H H' : Hp} {x l r f : Addr} {n : Int} {L R : List Int} {F : List Bool} (h : Obj a H x l r f n L R F) (k : Kp [] H H') : Obj a H' x l r f n L R F := ⟨h.1.kp0 k, h.2⟩
def sp_left_holds (a : AD) : Sp := fun vs H Q E => ∃ (x l r f : Addr) (n g : Int) (L R : List Int) (F : List Bool), vs = [.ref x, .int g] ∧ Obj a H x l r f n L R F ∧ 0 ≤ g ∧ g ≤ n ∧ Q (.bl (decide (R.getD g.toNat default = g + 1))) H
theorem sc_left_holds : FnScope ["links", "gap"] ["links", "gap"] (defScope s_left_holds) := ⟨rfl, rfl, rfl, by decide +kernel, rfl, by decide +kernel, by decide +kernel⟩
theorem ok_left_holds {P : Program} {w : World} {K : PySem.W.Frag} {mg : Str → Option Value} {base : Heap} {a : AD} (T : Txt P K mg a) (G_Links_right : FnA P w K mg base 2 a.f_Links_right ["self", "node"] (sp_Links_right a)) : FnA P w K mg base 3 a.f_left_holds ["links", "gap"] (sp_left_holds a) := by
  obtain ⟨fd, F, b⟩ := T.F_left_holds
  refine FnA.of F sc_left_holds b (fun vs H Q E h => by first | (obtain ⟨rfl, _⟩ := h; rfl) | (obtain ⟨_, rfl, _⟩ := h; rfl) | (obtain ⟨_, _, rfl, _⟩ := h; rfl) | (obtain ⟨_, _, _, rfl, _⟩ := h; rfl) | (obtain ⟨_, _, _, _, rfl, _⟩ := h; rfl) | (obtain ⟨_, _, _, _, _, rfl, _⟩ := h; rfl) | (obtain ⟨_, _, _, _, _, _, rfl, _⟩ := h; rfl) | (obtain ⟨_, _, _, _, _, _, _, rfl, _⟩ := h; rfl) | (obtain ⟨_, _, _, _, _, _, _, _, rfl, _⟩ := h; rfl) | (obtain ⟨_, _, _, _, _, _, _, _, _, rfl, _⟩ := h; rfl) | (obtain ⟨_, _, _, _, _, _, _, _, _, _, rfl, _⟩ := h; rfl) | (obtain ⟨_, _, _, _, _, _, _, _, _, _, _, rfl, _⟩ := h; rfl) | (obtain ⟨_, _, _, _, _, _, _, _, _, _, _, _, rfl, _⟩ := h; rfl) | (obtain ⟨_, _, _, _, _, _, _, _, _, _, _, _, _, rfl, _⟩ := h; rfl) | (obtain ⟨_, _, _, _, _, _, _, _, _, _, _, _, _, _, rfl, _⟩ := h; rfl) | (obtain ⟨_, _, _, _, _, _, _, _, _, _, _, _, _, _, _, rfl, _⟩ := h; rfl) | (obtain ⟨_, _, _, _, _, _, _, _, _, _, _, _, _, _, _, _, rfl, _⟩ := h; rfl) | (obtain ⟨_, _, _, _, _, _, _, _, _, _, _, _, _, _, _, _, _, rfl, _⟩ := h; rfl) | (obtain ⟨_, _, _, _, _, _, _, _, _, _, _, _, _, _, _, _, _, _, rfl, _⟩ := h; rfl) | (obtain ⟨_, _, _, _, _, _, _, _, _, _, _, _, _, _, _, _, _, _, _, rfl, _⟩ := h; rfl) | (obtain ⟨_, _, _, _, _, _, _, _, _, _, _, _, _, _, _, _, _, _, _, _, rfl, _⟩ := h; rfl) | (obtain ⟨_, _, _, _, _, _, _, _, _, _, _, _, _, _, _, _, _, _, _, _, _, rfl, _⟩ := h; rfl) | (obtain ⟨_, _, _, _, _, _, _, _, _, _, _, _, _, _, _, _, _, _, _, _, _, _, rfl, _⟩ := h; rfl) | (obtain ⟨_, _, _, _, _, _, _, _, _, _, _, _, _, _, _, _, _, _, _, _, _, _, _, rfl, _⟩ := h; rfl)) (fun cdv A outer s H vs Q E hr tk pz h => ?_)
  have hu := hr.units
  have hrH := L2H.roomH_of hr
  obtain ⟨x, l, r, f, n, g, L, R, F, rfl, hO, g0, g1, k⟩ := h
  have hx := hO.1.1.choose_spec
  refine ⟨_, (pss_one (ps_ret (pe_cmpR (o_eq hu) (pe_methS (pl := _) G_Links_right (Room.mono hr (by decide)) T.cl_Links T.me_Links_right tk (pv 0) (pa_cons (pv 1) pa_nil)) (pe_op o_add (pv 1) pe_int) (nomark _)))), ?_⟩
  show (_ : Ends → L2.St → Hp → Prop) _ [some _, some _] _
  try dsimp only [L2H.cxH, cxOf]
  walk_at "w"
  refine ⟨x, l, r, f, n, g, L, R, F, rfl, hO.1, hO.2.2.2.2.1, fun z => absurd ⟨g0, g1⟩ z, fun _ _ => ?_⟩
  walk_at "w"
  exact k
def sp_right_holds (a : AD) : Sp := fun vs H Q E => ∃ (x l r f : Addr) (n g : Int) (L R : List Int) (F : List Bool), vs = [.ref x, .int g] ∧ Obj a H x l r f n L R F ∧ 0 ≤ g ∧ g ≤ n ∧ Q (.bl (decide (L.getD (g + 1).toNat default = g))) H
theorem sc_right_holds : FnScope ["links", "gap"] ["links", "gap"] (defScope s_right_holds) := ⟨rfl, rfl, rfl, by decide +kernel, rfl, by decide +kernel, by decide +kernel⟩
theorem ok_right_holds {P : Program} {w : World} {K : PySem.W.Frag} {mg : Str → Option Value} {base : Heap} {a : AD} (T : Txt P K mg a) (G_Links_left : FnA P w K mg base 2 a.f_Links_left ["self", "node"] (sp_Links_left a)) : FnA P w K mg base 3 a.f_right_holds ["links", "gap"] (sp_right_holds a) := by
  obtain ⟨fd, F, b⟩ := T.F_right_holds
  refine FnA.of F sc_right_holds b (fun vs H Q E h => by first | (obtain ⟨rfl, _⟩ := h; rfl) | (obtain ⟨_, rfl, _⟩ := h; rfl) | (obtain ⟨_, _, rfl, _⟩ := h; rfl) | (obtain ⟨_, _, _, rfl, _⟩ := h; rfl) | (obtain ⟨_, _, _, _, rfl, _⟩ := h; rfl) | (obtain ⟨_, _, _, _, _, rfl, _⟩ := h; rfl) | (obtain ⟨_, _, _, _, _, _, rfl, _⟩ := h; rfl) | (obtain ⟨_, _, _, _, _, _, _, rfl, _⟩ := h; rfl) | (obtain ⟨_, _, _, _, _, _, _, _, rfl, _⟩ := h; rfl) | (obtain ⟨_, _, _, _, _, _, _, _, _, rfl, _⟩ := h; rfl) | (obtain ⟨_, _, _, _, _, _, _, _, _, _, rfl, _⟩ := h; rfl) | (obtain ⟨_, _, _, _, _, _, _, _, _, _, _, rfl, _⟩ := h; rfl) | (obtain ⟨_, _, _, _, _, _, _, _, _, _, _, _, rfl, _⟩ := h; rfl) | (obtain ⟨_, _, _, _, _, _, _, _, _, _, _, _, _, rfl, _⟩ := h; rfl) | (obtain ⟨_, _, _, _, _, _, _, _, _, _, _, _, _, _, rfl, _⟩ := h; rfl) | (obtain ⟨_, _, _, _, _, _, _, _, _, _, _, _, _, _, _, rfl, _⟩ := h; rfl) | (obtain ⟨_, _, _, _, _, _, _, _, _, _, _, _, _, _, _, _, rfl, _⟩ := h; rfl) | (obtain ⟨_, _, _, _, _, _, _, _, _, _, _, _, _, _, _, _, _, rfl, _⟩ := h; rfl) | (obtain ⟨_, _, _, _, _, _, _, _, _, _, _, _, _, _, _, _, _, _, rfl, _⟩ := h; rfl) | (obtain ⟨_, _, _, _, _, _, _, _, _, _, _, _, _, _, _, _, _, _, _, rfl, _⟩ := h; rfl) | (obtain ⟨_, _, _, _, _, _, _, _, _, _, _, _, _, _, _, _, _, _, _, _, rfl, _⟩ := h; rfl) | (obtain ⟨_, _, _, _, _, _, _, _, _, _, _, _, _, _, _, _, _, _, _, _, _, rfl, _⟩ := h; rfl) | (obtain ⟨_, _, _, _, _, _, _, _, _, _, _, _, _, _, _, _, _, _, _, _, _, _, rfl, _⟩ := h; rfl) | (obtain ⟨_, _, _, _, _, _, _, _, _, _, _, _, _, _, _, _, _, _, _, _, _, _, _, rfl, _⟩ := h; rfl)) (fun cdv A outer s H vs Q E hr tk pz h => ?_)
  have hu := hr.units
  have hrH := L2H.roomH_of hr
  obtain ⟨x, l, r, f, n, g, L, R, F, rfl, hO, g0, g1, k⟩ := h
  have hx := hO.1.1.choose_spec
  refine ⟨_, (pss_one (ps_ret (pe_cmpR (o_eq hu) (pe_methS (pl := _) G_Links_left (Room.mono hr (by decide)) T.cl_Links T.me_Links_left tk (pv 0) (pa_cons (pe_op o_add (pv 1) pe_int) pa_nil)) (pv 1) (nomark _)))), ?_⟩
  show (_ : Ends → L2.St → Hp → Prop) _ [some _, some _] _
  try dsimp only [L2H.cxH, cxOf]
  walk_at "w"
  refine ⟨x, l, r, f, n, g + 1, L, R, F, rfl, hO.1, hO.2.2.2.1, fun z => absurd ⟨by omega, by omega⟩ z, fun _ _ => ?_⟩
  walk_at "w"
  exact k
def sp_gap_state (a : AD) : Sp := fun vs H Q E => ∃ (x l r f : Addr) (n g : Int) (L R : List Int) (F : List Bool), vs = [.ref x, .int g] ∧ Obj a H x l r f n L R F ∧ (¬(0 ≤ g ∧ g ≤ n) → xBadGap a (.int g) E H) ∧ (0 ≤ g → g ≤ n → Q (.str (stateOf R L g)) H)
theorem sc_gap_state : FnScope ["links", "gap"] ["links", "gap"] (defScope s_gap_state) := ⟨rfl, rfl, rfl, by decide +kernel, rfl, by decide +kernel, by decide +kernel⟩
theorem ok_gap_state {P : Program} {w : World} {K : PySem.W.Frag} {mg : Str → Option Value} {base : Heap} {a : AD} (T : Txt P K mg a) (G_check_gap : FnA P w K mg base 2 a.f_check_gap ["size", "gap"] (sp_check_gap a)) (G_left_holds : FnA P w K mg base 3 a.f_left_holds ["links", "gap"] (sp_left_holds a)) (G_right_holds : FnA P w K mg base 3 a.f_right_holds ["links", "gap"] (sp_right_holds a)) : FnA P w K mg base 4 a.f_gap_state ["links", "gap"] (sp_gap_state a) := by
  obtain ⟨fd, F, b⟩ := T.F_gap_state
  refine FnA.of F sc_gap_state b (fun vs H Q E h => by first | (obtain ⟨rfl, _⟩ := h; rfl) | (obtain ⟨_, rfl, _⟩ := h; rfl) | (obtain ⟨_, _, rfl, _⟩ := h; rfl) | (obtain ⟨_, _, _, rfl, _⟩ := h; rfl) | (obtain ⟨_, _, _, _, rfl, _⟩ := h; rfl) | (obtain ⟨_, _, _, _, _, rfl, _⟩ := h; rfl) | (obtain ⟨_, _, _, _, _, _, rfl, _⟩ := h; rfl) | (obtain ⟨_, _, _, _, _, _, _, rfl, _⟩ := h; rfl) | (obtain ⟨_, _, _, _, _, _, _, _, rfl, _⟩ := h; rfl) | (obtain ⟨_, _, _, _, _, _, _, _, _, rfl, _⟩ := h; rfl) | (obtain ⟨_, _, _, _, _, _, _, _, _, _, rfl, _⟩ := h; rfl) | (obtain ⟨_, _, _, _, _, _, _, _, _, _, _, rfl, _⟩ := h; rfl) | (obtain ⟨_, _, _, _, _, _, _, _, _, _, _, _, rfl, _⟩ := h; rfl) | (obtain ⟨_, _, _, _, _, _, _, _, _, _, _, _, _, rfl, _⟩ := h; rfl) | (obtain ⟨_, _, _, _, _, _, _, _, _, _, _, _, _, _, rfl, _⟩ := h; rfl) | (obtain ⟨_, _, _, _, _, _, _, _, _, _, _, _, _, _, _, rfl, _⟩ := h; rfl) | (obtain ⟨_, _, _, _, _, _, _, _, _, _, _, _, _, _, _, _, rfl, _⟩ := h; rfl) | (obtain ⟨_, _, _, _, _, _, _, _, _, _, _, _, _, _, _, _, _, rfl, _⟩ := h; rfl) | (obtain ⟨_, _, _, _, _, _, _, _, _, _, _, _, _, _, _, _, _, _, rfl, _⟩ := h; rfl) | (obtain ⟨_, _, _, _, _, _, _, _, _, _, _, _, _, _, _, _, _, _, _, rfl, _⟩ := h; rfl) | (obtain ⟨_, _, _, _, _, _, _, _, _, _, _, _, _, _, _, _, _, _, _, _, rfl, _⟩ := h; rfl) | (obtain ⟨_, _, _, _, _, _, _, _, _, _, _, _, _, _, _, _, _, _, _, _, _, rfl, _⟩ := h; rfl) | (obtain ⟨_, _, _, _, _, _, _, _, _, _, _, _, _, _, _, _, _, _, _, _, _, _, rfl, _⟩ := h; rfl) | (obtain ⟨_, _, _, _, _, _, _, _, _, _, _, _, _, _, _, _, _, _, _, _, _, _, _, rfl, _⟩ := h; rfl)) (fun cdv A outer s H vs Q E hr tk pz h => ?_)
  have hu := hr.units
  have hrH := L2H.roomH_of hr
  obtain ⟨x, l, r, f, n, g, L, R, F, rfl, hO, h1, h2⟩ := h
  have hx := hO.1.1.choose_spec
  refine ⟨_, (pss_cons (ps_expr (pe_callA G_check_gap (Room.mono hr (by decide)) T.n_check_gap tk (pa_cons (pe_fld (pv 0) rfl) (pa_cons (pv 1) pa_nil))))
      (pss_cons (ps_if (pt_tru (pe_callA G_left_holds (Room.mono hr (by decide)) T.n_left_holds tk (pa_cons (pv 0) (pa_cons (pv 1) pa_nil)))) (pss_one (ps_ret (pe_ifExp (pt_tru (pe_callA G_right_holds (Room.mono hr (by decide)) T.n_right_holds tk (pa_cons (pv 0) (pa_cons (pv 1) pa_nil)))) pe_str pe_str))) pss_nil)
      (pss_one (ps_ret (pe_ifExp (pt_tru (pe_callA G_right_holds (Room.mono hr (by decide)) T.n_right_holds tk (pa_cons (pv 0) (pa_cons (pv 1) pa_nil)))) pe_str pe_str))))), ?_⟩
  show (_ : Ends → L2.St → Hp → Prop) _ [some _, some _] _
  try dsimp only [L2H.cxH, cxOf]
  walk_at "w"
  refine ⟨n, g, rfl, h1, fun g0 g1 => ?_⟩
  have k := h2 g0 g1
  unfold stateOf at k
  walk_at "w"
  refine ⟨x, l, r, f, n, g, L, R, F, rfl, hO, g0, g1, ?_⟩
  walk_at "w"
  refine w_ite (fun c1 => ?_) (fun c1 => ?_)
  · rw [if_pos c1] at k
    walk_at "w"
    refine ⟨x, l, r, f, n, g, L, R, F, rfl, hO, g0, g1, ?_⟩
    walk_at "w"
    refine w_ite (fun c2 => ?_) (fun c2 => ?_)
    · rw [if_pos c2] at k
      walk_at "w"
      exact k
    · rw [if_neg c2] at k
      walk_at "w"
      exact k
  · rw [if_neg c1] at k
    walk_at "w"
    refine ⟨x, l, r, f, n, g, L, R, F, rfl, hO, g0, g1, ?_⟩
    walk_at "w"
    refine w_ite (fun c2 => ?_) (fun c2 => ?_)
    · rw [if_pos c2] at k
      walk_at "w"
      exact k
    · rw [if_neg c2] at k
      walk_at "w"
      exact k
def statesOf (n : Int) (R L : List Int) : List Str := (List.range (n + 1).toNat).map fun i : Nat => stateOf R L (i : Int)
def lostF (n : Int) (R L : List Int) : List Int := (List.range (n + 1).toNat).filterMap fun i : Nat => if stateOf R L (i : Int) = ("lost" : Str) then some (i : Int) else none
def soleF (n : Int) (R L : List Int) : List Int := (List.range n.toNat).filterMap fun i : Nat => if stateOf R L (i : Int) = ("right" : Str) ∨ stateOf R L (1 + (i : Int)) = ("left" : Str) then some (1 + (i : Int)) else none
theorem statesOf_get {n : Int} {R L : List Int} {i : Nat} (h : i < (n + 1).toNat) : (statesOf n R L)[i]? = some (stateOf R L (i : Int)) := by
  unfold statesOf
  rw [List.getElem?_map, List.getElem?_range h]; rfl
theorem statesOf_getD {n : Int} {R L : List Int} {i : Nat} (h : i < (n + 1).toNat) : (statesOf n R L).getD i default = stateOf R L (i : Int) := by
  rw [List.getD_eq_getElem?_getD, statesOf_get h]; rfl
theorem statesOf_len (n : Int) (R L : List Int) : (statesOf n R L).length = (n + 1).toNat := by
  unfold statesOf
  rw [List.length_map, List.length_range]
def sp_gap_states (a : AD) : Sp := fun vs H Q E => ∃ (x l r f : Addr) (n : Int) (L R : List Int) (F : List Bool), vs = [.ref x] ∧ Obj a H x l r f n L R F ∧ ∀ p H', H p = none → Kp [] H H' → H' p = some (.lst ((statesOf n R L).map V.str)) → Q (.ref p) H'
theorem sc_gap_states : FnScope ["links", "gap"] ["links"] (defScope s_gap_states) := ⟨rfl, rfl, rfl, by decide +kernel, rfl, by decide +kernel, by decide +kernel⟩
theorem ok_gap_states {P : Program} {w : World} {K : PySem.W.Frag} {mg : Str → Option Value} {base : Heap} {a : AD} (T : Txt P K mg a) (G_gap_state : FnA P w K mg base 4 a.f_gap_state ["links", "gap"] (sp_gap_state a)) : FnA P w K mg base 5 a.f_gap_states ["links"] (sp_gap_states a) := by
  obtain ⟨fd, F, b⟩ := T.F_gap_states
  refine FnA.of F sc_gap_states b (fun vs H Q E h => by first | (obtain ⟨rfl, _⟩ := h; rfl) | (obtain ⟨_, rfl, _⟩ := h; rfl) | (obtain ⟨_, _, rfl, _⟩ := h; rfl) | (obtain ⟨_, _, _, rfl, _⟩ := h; rfl) | (obtain ⟨_, _, _, _, rfl, _⟩ := h; rfl) | (obtain ⟨_, _, _, _, _, rfl, _⟩ := h; rfl) | (obtain ⟨_, _, _, _, _, _, rfl, _⟩ := h; rfl) | (obtain ⟨_, _, _, _, _, _, _, rfl, _⟩ := h; rfl) | (obtain ⟨_, _, _, _, _, _, _, _, rfl, _⟩ := h; rfl) | (obtain ⟨_, _, _, _, _, _, _, _, _, rfl, _⟩ := h; rfl) | (obtain ⟨_, _, _, _, _, _, _, _, _, _, rfl, _⟩ := h; rfl) | (obtain ⟨_, _, _, _, _, _, _, _, _, _, _, rfl, _⟩ := h; rfl) | (obtain ⟨_, _, _, _, _, _, _, _, _, _, _, _, rfl, _⟩ := h; rfl) | (obtain ⟨_, _, _, _, _, _, _, _, _, _, _, _, _, rfl, _⟩ := h; rfl) | (obtain ⟨_, _, _, _, _, _, _, _, _, _, _, _, _, _, rfl, _⟩ := h; rfl) | (obtain ⟨_, _, _, _, _, _, _, _, _, _, _, _, _, _, _, rfl, _⟩ := h; rfl) | (obtain ⟨_, _, _, _, _, _, _, _, _, _, _, _, _, _, _, _, rfl, _⟩ := h; rfl) | (obtain ⟨_, _, _, _, _, _, _, _, _, _, _, _, _, _, _, _, _, rfl, _⟩ := h; rfl) | (obtain ⟨_, _, _, _, _, _, _, _, _, _, _, _, _, _, _, _, _, _, rfl, _⟩ := h; rfl) | (obtain ⟨_, _, _, _, _, _, _, _, _, _, _, _, _, _, _, _, _, _, _, rfl, _⟩ := h; rfl) | (obtain ⟨_, _, _, _, _, _, _, _, _, _, _, _, _, _, _, _, _, _, _, _, rfl, _⟩ := h; rfl) | (obtain ⟨_, _, _, _, _, _, _, _, _, _, _, _, _, _, _, _, _, _, _, _, _, rfl, _⟩ := h; rfl) | (obtain ⟨_, _, _, _, _, _, _, _, _, _, _, _, _, _, _, _, _, _, _, _, _, _, rfl, _⟩ := h; rfl) | (obtain ⟨_, _, _, _, _, _, _, _, _, _, _, _, _, _, _, _, _, _, _, _, _, _, _, rfl, _⟩ := h; rfl)) (fun cdv A outer s H vs Q E hr tk pz h => ?_)
  have hu := hr.units
  have hrH := L2H.roomH_of hr
  obtain ⟨x, l, r, f, n, L, R, F, rfl, hO, k⟩ := h
  have hx := hO.1.1.choose_spec
  have n0 := hO.2.1
  have n1 := hO.2.2.1
  refine ⟨_, (pss_one (ps_ret (pe_lc (own := [("gap", 1)]) (g := (gName 1)) (tt := tYes) rfl sc_gap_states.nd (pi_range1 rfl T.b_range (pa_cons (pe_op o_add (pe_fld (pv 0) rfl) pe_int) pa_nil)) (blkOk_by (own := [("gap", 1)]) (N := ["links", "gap"]) (sc := defScope s_gap_states) (by decide +kernel)) (fun _ _ _ _ _ => (pg_name (i := 1) sc_gap_states.nd rfl (Or.inl rfl))) (fun _ _ _ _ _ => pts_nil) (fun _ _ _ _ _ => (pe_callA G_gap_state (Room.mono hr (by decide)) T.n_gap_state takes0 (pa_cons (pv 0) (pa_cons (pv 1) pa_nil))))))), ?_⟩
  show (_ : Ends → L2.St → Hp → Prop) _ [some _, none] _
  try dsimp only [L2H.cxH, cxOf]
  walk_at "w"
  refine w_lcR1 (f' := V.str) (fun i : Nat => some (stateOf R L (i : Int))) (n := n + 1) (by omega) (by omega) (by rw [sizeLine_eq]; omega) ?_ ?_
  · intro D i acc H' hD hi hk hA hlen
    walk_at "w"
    refine ⟨rfl, ?_⟩
    walk_at "w"
    refine ⟨x, l, r, f, n, i, L, R, F, rfl, hO.kp0 hk, fun z => absurd ⟨by omega, by omega⟩ z, fun _ _ => ?_⟩
    exact w_keep hk hA hlen hD rfl
  · intro D H' hD hk hA
    rw [fm_some] at hA
    exact k D H' hD hk hA
theorem zip_states {n : Int} {R L : List Int} {β : Type} {ψ : Nat → Str → Option β} : ((statesOf n R L).zipIdx.filterMap fun q => ψ q.2 q.1) = (List.range (n + 1).toNat).filterMap fun i : Nat => ψ i (stateOf R L (i : Int)) := by
  have e : (statesOf n R L).zipIdx = (List.range (n + 1).toNat).map fun i : Nat => (stateOf R L (i : Int), i) := by
    apply List.ext_getElem?
    intro i
    rw [List.getElem?_zipIdx, List.getElem?_map]
    by_cases h : i < (n + 1).toNat
    · rw [statesOf_get h, List.getElem?_range h]
      simp
    · rw [List.getElem?_eq_none (by rw [statesOf_len]; omega), List.getElem?_eq_none (by simp; omega)]
      rfl
  rw [e, List.filterMap_map]
  rfl
def sp_lost_gaps (a : AD) : Sp := fun vs H Q E => ∃ (x l r f : Addr) (n : Int) (L R : List Int) (F : List Bool), vs = [.ref x] ∧ Obj a H x l r f n L R F ∧ ∀ p H', H p = none → Kp [] H H' → H' p = some (.lst ((lostF n R L).map V.int)) → Q (.ref p) H'
theorem sc_lost_gaps : FnScope ["links", "states", "gap", "state"] ["links"] (defScope s_lost_gaps) := ⟨rfl, rfl, rfl, by decide +kernel, rfl, by decide +kernel, by decide +kernel⟩
theorem ok_lost_gaps {P : Program} {w : World} {K : PySem.W.Frag} {mg : Str → Option Value} {base : Heap} {a : AD} (T : Txt P K mg a) (G_gap_states : FnA P w K mg base 5 a.f_gap_states ["links"] (sp_gap_states a)) : FnA P w K mg base 6 a.f_lost_gaps ["links"] (sp_lost_gaps a) := by
  obtain ⟨fd, F, b⟩ := T.F_lost_gaps
  refine FnA.of F sc_lost_gaps b (fun vs H Q E h => by first | (obtain ⟨rfl, _⟩ := h; rfl) | (obtain ⟨_, rfl, _⟩ := h; rfl) | (obtain ⟨_, _, rfl, _⟩ := h; rfl) | (obtain ⟨_, _, _, rfl, _⟩ := h; rfl) | (obtain ⟨_, _, _, _, rfl, _⟩ := h; rfl) | (obtain ⟨_, _, _, _, _, rfl, _⟩ := h; rfl) | (obtain ⟨_, _, _, _, _, _, rfl, _⟩ := h; rfl) | (obtain ⟨_, _, _, _, _, _, _, rfl, _⟩ := h; rfl) | (obtain ⟨_, _, _, _, _, _, _, _, rfl, _⟩ := h; rfl) | (obtain ⟨_, _, _, _, _, _, _, _, _, rfl, _⟩ := h; rfl) | (obtain ⟨_, _, _, _, _, _, _, _, _, _, rfl, _⟩ := h; rfl) | (obtain ⟨_, _, _, _, _, _, _, _, _, _, _, rfl, _⟩ := h; rfl) | (obtain ⟨_, _, _, _, _, _, _, _, _, _, _, _, rfl, _⟩ := h; rfl) | (obtain ⟨_, _, _, _, _, _, _, _, _, _, _, _, _, rfl, _⟩ := h; rfl) | (obtain ⟨_, _, _, _, _, _, _, _, _, _, _, _, _, _, rfl, _⟩ := h; rfl) | (obtain ⟨_, _, _, _, _, _, _, _, _, _, _, _, _, _, _, rfl, _⟩ := h; rfl) | (obtain ⟨_, _, _, _, _, _, _, _, _, _, _, _, _, _, _, _, rfl, _⟩ := h; rfl) | (obtain ⟨_, _, _, _, _, _, _, _, _, _, _, _, _, _, _, _, _, rfl, _⟩ := h; rfl) | (obtain ⟨_, _, _, _, _, _, _, _, _, _, _, _, _, _, _, _, _, _, rfl, _⟩ := h; rfl) | (obtain ⟨_, _, _, _, _, _, _, _, _, _, _, _, _, _, _, _, _, _, _, rfl, _⟩ := h; rfl) | (obtain ⟨_, _, _, _, _, _, _, _, _, _, _, _, _, _, _, _, _, _, _, _, rfl, _⟩ := h; rfl) | (obtain ⟨_, _, _, _, _, _, _, _, _, _, _, _, _, _, _, _, _, _, _, _, _, rfl, _⟩ := h; rfl) | (obtain ⟨_, _, _, _, _, _, _, _, _, _, _, _, _, _, _, _, _, _, _, _, _, _, rfl, _⟩ := h; rfl) | (obtain ⟨_, _, _, _, _, _, _, _, _, _, _, _, _, _, _, _, _, _, _, _, _, _, _, rfl, _⟩ := h; rfl)) (fun cdv A outer s H vs Q E hr tk pz h => ?_)
  have hu := hr.units
  have hrH := L2H.roomH_of hr
  obtain ⟨x, l, r, f, n, L, R, F, rfl, hO, k⟩ := h
  have n1 := hO.2.2.1
  refine ⟨_, (pss_cons (ps_set (i := 1) sc_lost_gaps.nd rfl (Or.inl rfl) (pe_callA G_gap_states (Room.mono hr (by decide)) T.n_gap_states tk (pa_cons (pv 0) pa_nil)))
      (pss_one (ps_ret (pe_lc (own := [("gap", 2), ("state", 3)]) (g := (gTup K 2 (gCons (gName 2) (gCons (gName 3) gNil)))) rfl sc_lost_gaps.nd (pi_enum rfl T.b_enumerate (pa_cons (pv 1) pa_nil)) (blkOk_by (own := [("gap", 2), ("state", 3)]) (N := ["links", "states", "gap", "state"]) (sc := defScope s_lost_gaps) (by decide +kernel)) (fun _ _ _ _ _ => (pg_tup rfl (pgs_cons (pg_name (i := 2) sc_lost_gaps.nd rfl (Or.inl rfl)) (pgs_cons (pg_name (i := 3) sc_lost_gaps.nd rfl (Or.inl rfl)) pgs_nil)))) (fun _ _ _ _ _ => (pts_one (pt_cmpA (show OpR _ _ (aEq K) from (o_eq hu)) (pv 3) pe_str (nomark _)))) (fun _ _ _ _ _ => (pv 2)))))), ?_⟩
  show (_ : Ends → L2.St → Hp → Prop) _ [some _, none, none, none] _
  try dsimp only [L2H.cxH, cxOf]
  walk_at "w"
  refine ⟨x, l, r, f, n, L, R, F, rfl, hO, fun p H1 hp k1 hp1 => ?_⟩
  have hsl := statesOf_len n R L
  walk_at "w"
  refine w_lcE (f := V.str) (f' := V.int) (fun i s => if s = ("lost" : Str) then some (i : Int) else none) hp1 (by rw [sizeLine_eq]; omega) ?_ ?_
  · intro D i u T acc H' hD hu hk hA hlen hT hTD
    refine ⟨rfl, ?_⟩
    walk_at "w"
    refine w_ite (fun c => ?_) (fun c => ?_)
    · walk_at "w"
      exact w_keep (hk.new hT) (upd_get (Ne.symm hTD) hA) hlen hD (by rw [if_pos c])
    · walk_at "w"
      exact w_drop (hk.new hT) (upd_get (Ne.symm hTD) hA) (by rw [if_neg c])
  · intro D H' hD hk hA
    rw [zip_states (ψ := fun i s => if s = ("lost" : Str) then some (i : Int) else none)] at hA
    exact k D H' (k1.free hD) (k1.trans hk) hA
def sp_sole_holders (a : AD) : Sp := fun vs H Q E => ∃ (x l r f : Addr) (n : Int) (L R : List Int) (F : List Bool), vs = [.ref x] ∧ Obj a H x l r f n L R F ∧ ∀ p H', H p = none → Kp [] H H' → H' p = some (.lst ((soleF n R L).map V.int)) → Q (.ref p) H'
theorem state_left {R L : List Int} {g : Int} : stateOf R L g = ("left" : Str) ↔ R.getD g.toNat default = g + 1 ∧ ¬L.getD (g + 1).toNat default = g := by
  have n1 : ¬("joined" : Str) = ("left" : Str) := by decide
  have n2 : ¬("right" : Str) = ("left" : Str) := by decide
  have n3 : ¬("lost" : Str) = ("left" : Str) := by decide
  unfold stateOf
  by_cases c1 : R.getD g.toNat default = g + 1
  · rw [if_pos c1]
    by_cases c2 : L.getD (g + 1).toNat default = g
    · rw [if_pos c2]; exact ⟨fun z => absurd z n1, fun z => absurd c2 z.2⟩
    · rw [if_neg c2]; exact ⟨fun _ => ⟨c1, c2⟩, fun _ => rfl⟩
  · rw [if_neg c1]
    by_cases c2 : L.getD (g + 1).toNat default = g
    · rw [if_pos c2]; exact ⟨fun z => absurd z n2, fun z => absurd z.1 c1⟩
    · rw [if_neg c2]; exact ⟨fun z => absurd z n3, fun z => absurd z.1 c1⟩
theorem state_right {R L : List Int} {g : Int} : stateOf R L g = ("right" : Str) ↔ ¬R.getD g.toNat default = g + 1 ∧ L.getD (g + 1).toNat default = g := by
  have n1 : ¬("joined" : Str) = ("right" : Str) := by decide
  have n2 : ¬("left" : Str) = ("right" : Str) := by decide
  have n3 : ¬("lost" : Str) = ("right" : Str) := by decide
  unfold stateOf
  by_cases c1 : R.getD g.toNat default = g + 1
  · rw [if_pos c1]
    by_cases c2 : L.getD (g + 1).toNat default = g
    · rw [if_pos c2]; exact ⟨fun z => absurd z n1, fun z => absurd c1 z.1⟩
    · rw [if_neg c2]; exact ⟨fun z => absurd z n2, fun z => absurd z.2 c2⟩
  · rw [if_neg c1]
    by_cases c2 : L.getD (g + 1).toNat default = g
    · rw [if_pos c2]; exact ⟨fun _ => ⟨c1, c2⟩, fun _ => rfl⟩
    · rw [if_neg c2]; exact ⟨fun z => absurd z n3, fun z => absurd z.2 c2⟩
theorem state_app {n : Int} {R L : List Int} {F : List Bool} (w : WF n R L F) {g : Nat} (h : g < (n + 1).toNat) {x : Int} : stateOf (R ++ [x]) L (g : Int) = stateOf R L (g : Int) := by
  have e : (R ++ [x]).getD (g : Int).toNat default = R.getD (g : Int).toNat default := by
    rw [List.getD_eq_getElem?_getD, List.getD_eq_getElem?_getD, List.getElem?_append_left (by rw [w.hR]; omega)]
  unfold stateOf
  rw [e]
theorem states_app {n : Int} {R L : List Int} {F : List Bool} (w : WF n R L F) {x : Int} : statesOf n (R ++ [x]) L = statesOf n R L := by
  unfold statesOf
  apply List.map_congr_left
  intro i hi
  rw [List.mem_range] at hi
  exact state_app w hi
theorem lost_app {n : Int} {R L : List Int} {F : List Bool} (w : WF n R L F) {x : Int} : lostF n (R ++ [x]) L = lostF n R L := by
  unfold lostF
  apply fm_congr
  intro i hi
  rw [List.mem_range] at hi
  rw [state_app w hi]
theorem sole_app {n : Int} {R L : List Int} {F : List Bool} (w : WF n R L F) {x : Int} : soleF n (R ++ [x]) L = soleF n R L := by
  have n0 := w.n0
  unfold soleF
  apply fm_congr
  intro i hi
  rw [List.mem_range] at hi
  rw [state_app w (by omega), show 1 + (i : Int) = ((i + 1 : Nat) : Int) by omega, state_app w (by omega)]
def soleK (R L : List Int) (k : Nat) : List Int := (List.range k).filterMap fun i : Nat => if stateOf R L (i : Int) = ("right" : Str) ∨ stateOf R L (1 + (i : Int)) = ("left" : Str) then some (1 + (i : Int)) else none
theorem soleK_succ (R L : List Int) (k : Nat) : soleK R L (k + 1) = soleK R L k ++ (if stateOf R L (k : Int) = ("right" : Str) ∨ stateOf R L (1 + (k : Int)) = ("left" : Str) then [1 + (k : Int)] else []) := by
  unfold soleK
  rw [List.range_succ, List.filterMap_append]
  congr 1
  rw [List.filterMap_cons, List.filterMap_nil]
  by_cases z : stateOf R L (k : Int) = ("right" : Str) ∨ stateOf R L (1 + (k : Int)) = ("left" : Str)
  · rw [if_pos z, if_pos z]
  · rw [if_neg z, if_neg z]
theorem soleK_len (R L : List Int) (k : Nat) : (soleK R L k).length ≤ k := by
  have := fm_len (fun i : Nat => if stateOf R L (i : Int) = ("right" : Str) ∨ stateOf R L (1 + (i : Int)) = ("left" : Str) then some (1 + (i : Int)) else none) (List.range k)
  rw [List.length_range] at this
  exact this
theorem lostF_len (n : Int) (R L : List Int) : (lostF n R L).length ≤ (n + 1).toNat := by
  have := fm_len (fun i : Nat => if stateOf R L (i : Int) = ("lost" : Str) then some (i : Int) else none) (List.range (n + 1).toNat)
  rw [List.length_range] at this
  exact this

/-! ### the law's own standing: [size, rights, lefts, flags] -/
def Wd (H : Hp) (w r l f : Addr) (n : Int) (R L : List Int) (F : List Bool) : Prop := H w = some (.lst [.int n, .ref r, .ref l, .ref f]) ∧ H r = some (.lst (R.map V.int)) ∧ H l = some (.lst (L.map V.int)) ∧ H f = some (.lst (F.map V.bl)) ∧ w ≠ r ∧ w ≠ l ∧ w ≠ f ∧ r ≠ l ∧ r ≠ f ∧ l ≠ f
theorem Wd.kp {ms : List Addr} {H H' : Hp} {w r l f : Addr} {n : Int} {R L : List Int} {F : List Bool} (h : Wd H w r l f n R L F) (k : Kp ms H H') (h1 : w ∉ ms) (h2 : r ∉ ms) (h3 : l ∉ ms) (h4 : f ∉ ms) : Wd H' w r l f n R L F :=
  ⟨k.at h.1 h1, k.at h.2.1 h2, k.at h.2.2.1 h3, k.at h.2.2.2.1 h4, h.2.2.2.2⟩
theorem Wd.kp0 {H H' : Hp} {w r l f : Addr} {n : Int} {R L : List Int} {F : List Bool} (h : Wd H w r l f n R L F) (k : Kp [] H H') : Wd H' w r l f n R L F := h.kp k List.not_mem_nil List.not_mem_nil List.not_mem_nil List.not_mem_nil
/-! ### a drawn standing -/
/-- as WF, but the flags are of the law's own list -/
theorem rep_get {α : Type} [Inhabited α] {n i : Nat} {u : α} (h : i < n) : (List.replicate n u).getD i default = u := by
  simp [List.getD, List.getElem?_replicate, h]
theorem fm_rep {β : Type} {b : β} : ∀ {k : Nat}, (List.range k).filterMap (fun _ => some b) = List.replicate k b
  | 0 => rfl
  | k + 1 => by rw [List.range_succ, List.filterMap_append, fm_rep, List.replicate_succ']; rfl
def r0 (n : Int) : List Int := (List.range (n + 1).toNat).map fun i : Nat => (i : Int) + 1
def l0 (n : Int) : List Int := (List.range (n + 2).toNat).map fun i : Nat => (i : Int) - 1
theorem wf0 {n : Int} (n0 : 0 ≤ n) (n1 : n ≤ 60) : WF n (r0 n) (l0 n) (List.replicate (n + 2).toNat false) where
  n0 := n0
  n1 := n1
  hR := by simp [r0]
  hL := by simp [l0]
  hF := by simp
  r := fun i u h => by
    unfold r0 at h
    rw [List.getElem?_map] at h
    by_cases z : i < (n + 1).toNat
    · rw [List.getElem?_range z] at h
      have h : (i : Int) + 1 = u := Option.some.inj h
      omega
    · rw [List.getElem?_eq_none (by simp; omega)] at h
      cases h
  l0 := by
    unfold l0
    rw [List.getElem?_map, List.getElem?_range (by omega)]; rfl
  l := fun i u hi h => by
    unfold l0 at h
    rw [List.getElem?_map] at h
    by_cases z : i < (n + 2).toNat
    · rw [List.getElem?_range z] at h
      have h : (i : Int) - 1 = u := Option.some.inj h
      omega
    · rw [List.getElem?_eq_none (by simp; omega)] at h
      cases h
  f0 := rep_get (by omega)
  f1 := rep_get (by omega)
theorem get_set {us : List Int} {i j : Nat} {u v : Int} (h : (us.set i u)[j]? = some v) : (i = j ∧ v = u) ∨ (i ≠ j ∧ us[j]? = some v) := by
  by_cases z : i = j
  · subst z
    rw [List.getElem?_set_self'] at h
    cases q : us[i]? with
    | none => rw [q] at h; cases h
    | some x => rw [q] at h; cases h; exact .inl ⟨rfl, rfl⟩
  · rw [List.getElem?_set_ne z] at h
    exact .inr ⟨z, h⟩
theorem WF.setR {n : Int} {R L : List Int} {F : List Bool} (w : WF n R L F) {i : Nat} {u : Int} (h : (i : Int) < u ∧ u ≤ n + 1) : WF n (R.set i u) L F := by
  refine ⟨w.n0, w.n1, by rw [List.length_set]; exact w.hR, w.hL, w.hF, fun j v e => ?_, w.l0, w.l, w.f0, w.f1⟩
  rcases get_set e with ⟨rfl, rfl⟩ | ⟨_, e⟩
  · exact h
  · exact w.r j v e
theorem WF.setL {n : Int} {R L : List Int} {F : List Bool} (w : WF n R L F) {i : Nat} {u : Int} (h : 1 ≤ i) (h2 : 0 ≤ u ∧ u < (i : Int)) : WF n R (L.set i u) F := by
  refine ⟨w.n0, w.n1, w.hR, by rw [List.length_set]; exact w.hL, w.hF, w.r, by rw [List.getElem?_set_ne (by omega)]; exact w.l0, fun j v hj e => ?_, w.f0, w.f1⟩
  rcases get_set e with ⟨rfl, rfl⟩ | ⟨_, e⟩
  · exact h2
  · exact w.l j v hj e
theorem WF.setF {n : Int} {R L : List Int} {F : List Bool} (w : WF n R L F) {i : Nat} {u : Bool} (h : 1 ≤ i) (h2 : (i : Int) ≤ n) : WF n R L (F.set i u) :=
  ⟨w.n0, w.n1, w.hR, w.hL, by rw [List.length_set]; exact w.hF, w.r, w.l0, w.l, by rw [getD_set_ne (by omega)]; exact w.f0, by rw [getD_set_ne (by omega)]; exact w.f1⟩
/-- the law's step -/
def stR (R L : List Int) (o : Int) : List Int := R.set (L.getD o.natAbs default).toNat (if o < 0 then R.getD o.natAbs default else (o.natAbs : Int))
theorem WF.at {n : Int} {R L : List Int} {F : List Bool} (w : WF n R L F) {v : Nat} (h1 : 1 ≤ v) (h2 : (v : Int) ≤ n) : 0 ≤ L.getD v default ∧ L.getD v default < (v : Int) ∧ (v : Int) < R.getD v default ∧ R.getD v default ≤ n + 1 := by
  have hl : v < L.length := by rw [w.hL]; omega
  have hr : v < R.length := by rw [w.hR]; omega
  have a1 := w.l v _ h1 (getD_some hl)
  have a2 := w.r v _ (getD_some hr)
  omega
theorem WF.ap {n : Int} {R L : List Int} {F : List Bool} (w : WF n R L F) {o : Int} (h : IsOp n o) : WF n (apR L R o) (apL L R o) (apF F o) := by
  have h1 := h.1
  have h2 := h.2
  have q := w.at (v := o.natAbs) (by omega) h2
  unfold apR apL apF
  have wr : WF n (R.set (L.getD o.natAbs default).toNat (if o < 0 then R.getD o.natAbs default else (o.natAbs : Int))) L F := w.setR (by split <;> omega)
  have wl := wr.setL (i := (R.getD o.natAbs default).toNat) (u := if o < 0 then L.getD o.natAbs default else (o.natAbs : Int)) (by omega) (by split <;> omega)
  exact wl.setF (by omega) (by omega)
/-! ### apart -/
theorem sep_of {H : Hp} {xs ys : List Addr} (fresh : ∀ x ∈ xs, H x = none) (live : ∀ y ∈ ys, ∃ o, H y = some o) : ∀ x ∈ xs, x ∉ ys := fun x hx hy => by
  obtain ⟨o, e⟩ := live x hy
  rw [fresh x hx] at e; cases e
theorem sep_of' {H : Hp} {xs ys : List Addr} (live : ∀ y ∈ xs, ∃ o, H y = some o) (fresh : ∀ x ∈ ys, H x = none) : ∀ x ∈ xs, x ∉ ys := fun x hx hy => by
  obtain ⟨o, e⟩ := live x hx
  rw [fresh x hy] at e; cases e
theorem Lnk.live {a : AD} {H : Hp} {x l r f : Addr} {n : Int} {L R : List Int} {F : List Bool} (h : Lnk a H x l r f n L R F) : ∀ y ∈ [x, l, r, f], ∃ o, H y = some o := by
  obtain ⟨⟨dx, h1⟩, h2, h3, h4, _⟩ := h
  intro y hy
  simp only [List.mem_cons, List.mem_nil_iff, or_false] at hy
  rcases hy with rfl | rfl | rfl | rfl
  · exact ⟨_, h1⟩
  · exact ⟨_, h2⟩
  · exact ⟨_, h3⟩
  · exact ⟨_, h4⟩
theorem Wd.live {H : Hp} {w r l f : Addr} {n : Int} {R L : List Int} {F : List Bool} (h : Wd H w r l f n R L F) : ∀ y ∈ [w, r, l, f], ∃ o, H y = some o := by
  obtain ⟨h1, h2, h3, h4, _⟩ := h
  intro y hy
  simp only [List.mem_cons, List.mem_nil_iff, or_false] at hy
  rcases hy with rfl | rfl | rfl | rfl
  · exact ⟨_, h1⟩
  · exact ⟨_, h2⟩
  · exact ⟨_, h3⟩
  · exact ⟨_, h4⟩
theorem four {H : Hp} {x l r f : Addr} (h1 : H x = none) (h2 : H l = none) (h3 : H r = none) (h4 : H f = none) : ∀ y ∈ [x, l, r, f], H y = none := by
  intro y hy
  simp only [List.mem_cons, List.mem_nil_iff, or_false] at hy
  rcases hy with rfl | rfl | rfl | rfl <;> assumption
theorem Lnk.kpS {a : AD} {ms : List Addr} {H H' : Hp} {x l r f : Addr} {n : Int} {L R : List Int} {F : List Bool} (h : Lnk a H x l r f n L R F) (k : Kp ms H H') (s : ∀ y ∈ [x, l, r, f], y ∉ ms) : Lnk a H' x l r f n L R F :=
  h.kp k (s x (by simp)) (s l (by simp)) (s r (by simp)) (s f (by simp))
theorem Wd.kpS {ms : List Addr} {H H' : Hp} {w r l f : Addr} {n : Int} {R L : List Int} {F : List Bool} (h : Wd H w r l f n R L F) (k : Kp ms H H') (s : ∀ y ∈ [w, r, l, f], y ∉ ms) : Wd H' w r l f n R L F :=
  h.kp k (s w (by simp)) (s r (by simp)) (s l (by simp)) (s f (by simp))
theorem sep_sub {xs ys zs : List Addr} (s : ∀ x ∈ xs, x ∉ ys) (h : ∀ z ∈ zs, z ∈ ys) : ∀ x ∈ xs, x ∉ zs := fun x hx hz => s x hx (h x hz)
theorem sep_mono {xs ys xs' ys' : List Addr} (s : ∀ x ∈ xs, x ∉ ys) (h1 : ∀ z ∈ xs', z ∈ xs) (h2 : ∀ z ∈ ys', z ∈ ys) : ∀ x ∈ xs', x ∉ ys' := fun x hx hz => s x (h1 x hx) (h2 x hz)
theorem sep_swap {xs ys : List Addr} (s : ∀ x ∈ xs, x ∉ ys) : ∀ y ∈ ys, y ∉ xs := fun y hy hx => s y hx hy
theorem ap_app {n : Int} {R L : List Int} {F : List Bool} (w : WF n R L F) {o x : Int} (h : IsOp n o) : apR L (R ++ [x]) o = apR L R o ++ [x] ∧ apL L (R ++ [x]) o = apL L R o := by
  have h2 := h.2
  have h1 := h.1
  have q := w.at (v := o.natAbs) (by omega) h2
  have hR := w.hR
  have e : (R ++ [x]).getD o.natAbs default = R.getD o.natAbs default := by
    rw [List.getD_eq_getElem?_getD, List.getD_eq_getElem?_getD, List.getElem?_append_left (by omega)]
  unfold apR apL
  rw [e, List.set_append_left _ _ (by omega)]
  exact ⟨rfl, rfl⟩

/-! ### changes of gaps -/
def sp_Links_operation_on (a : AD) : Sp := fun vs H Q E => ∃ (x l r f : Addr) (n v : Int) (L R : List Int) (F : List Bool), vs = [.ref x, .int v] ∧ Obj a H x l r f n L R F ∧ 0 ≤ v ∧ v ≤ n + 1 ∧ Q (.int (if F.getD v.toNat default = true then v else -v)) H
theorem sc_Links_operation_on : FnScope ["self", "node"] ["self", "node"] (defScope s_Links_operation_on) := ⟨rfl, rfl, rfl, by decide +kernel, rfl, by decide +kernel, by decide +kernel⟩
theorem ok_Links_operation_on {P : Program} {w : World} {K : PySem.W.Frag} {mg : Str → Option Value} {base : Heap} {a : AD} (T : Txt P K mg a) : FnA P w K mg base 2 a.f_Links_operation_on ["self", "node"] (sp_Links_operation_on a) := by
  obtain ⟨fd, F, b⟩ := T.F_Links_operation_on
  refine FnA.of F sc_Links_operation_on b (fun vs H Q E h => by first | (obtain ⟨rfl, _⟩ := h; rfl) | (obtain ⟨_, rfl, _⟩ := h; rfl) | (obtain ⟨_, _, rfl, _⟩ := h; rfl) | (obtain ⟨_, _, _, rfl, _⟩ := h; rfl) | (obtain ⟨_, _, _, _, rfl, _⟩ := h; rfl) | (obtain ⟨_, _, _, _, _, rfl, _⟩ := h; rfl) | (obtain ⟨_, _, _, _, _, _, rfl, _⟩ := h; rfl) | (obtain ⟨_, _, _, _, _, _, _, rfl, _⟩ := h; rfl) | (obtain ⟨_, _, _, _, _, _, _, _, rfl, _⟩ := h; rfl) | (obtain ⟨_, _, _, _, _, _, _, _, _, rfl, _⟩ := h; rfl) | (obtain ⟨_, _, _, _, _, _, _, _, _, _, rfl, _⟩ := h; rfl) | (obtain ⟨_, _, _, _, _, _, _, _, _, _, _, rfl, _⟩ := h; rfl) | (obtain ⟨_, _, _, _, _, _, _, _, _, _, _, _, rfl, _⟩ := h; rfl) | (obtain ⟨_, _, _, _, _, _, _, _, _, _, _, _, _, rfl, _⟩ := h; rfl) | (obtain ⟨_, _, _, _, _, _, _, _, _, _, _, _, _, _, rfl, _⟩ := h; rfl) | (obtain ⟨_, _, _, _, _, _, _, _, _, _, _, _, _, _, _, rfl, _⟩ := h; rfl) | (obtain ⟨_, _, _, _, _, _, _, _, _, _, _, _, _, _, _, _, rfl, _⟩ := h; rfl) | (obtain ⟨_, _, _, _, _, _, _, _, _, _, _, _, _, _, _, _, _, rfl, _⟩ := h; rfl) | (obtain ⟨_, _, _, _, _, _, _, _, _, _, _, _, _, _, _, _, _, _, rfl, _⟩ := h; rfl) | (obtain ⟨_, _, _, _, _, _, _, _, _, _, _, _, _, _, _, _, _, _, _, rfl, _⟩ := h; rfl) | (obtain ⟨_, _, _, _, _, _, _, _, _, _, _, _, _, _, _, _, _, _, _, _, rfl, _⟩ := h; rfl) | (obtain ⟨_, _, _, _, _, _, _, _, _, _, _, _, _, _, _, _, _, _, _, _, _, rfl, _⟩ := h; rfl) | (obtain ⟨_, _, _, _, _, _, _, _, _, _, _, _, _, _, _, _, _, _, _, _, _, _, rfl, _⟩ := h; rfl) | (obtain ⟨_, _, _, _, _, _, _, _, _, _, _, _, _, _, _, _, _, _, _, _, _, _, _, rfl, _⟩ := h; rfl)) (fun cdv A outer s H vs Q E hr tk pz h => ?_)
  have hu := hr.units
  have hrH := L2H.roomH_of hr
  obtain ⟨x, l, r, f, n, v, L, R, F, rfl, hO, v0, v1, k⟩ := h
  obtain ⟨⟨⟨dx, hx⟩, hl, hr', hf, _⟩, n0, n1, w1, w2, w3⟩ := hO
  refine ⟨_, (pss_one (ps_ret (pe_ifExp (pt_tru (pe_ix ix_seq (pe_fld (pv 0) rfl) (pv 1) (fun _ _ => rfl))) (pv 1) (pe_un un_neg (pv 1))))), ?_⟩
  show (_ : Ends → L2.St → Hp → Prop) _ [some _, some _] _
  try dsimp only [L2H.cxH, cxOf]
  walk_at "w"
  refine w_iteb (fun c => ?_) (fun c => ?_)
  · rw [if_pos c] at k
    walk_at "w"
    exact k
  · rw [if_neg (by rw [c]; exact Bool.false_ne_true)] at k
    walk_at "w"
    exact k
def sp_touched_gaps (a : AD) : Sp := fun vs H Q E => ∃ (x l r f : Addr) (n v : Int) (L R : List Int) (F : List Bool), vs = [.ref x, .int v] ∧ Obj a H x l r f n L R F ∧ 1 ≤ v ∧ v ≤ n ∧ ∀ p, H p = none → Q (.ref p) (upd H p (.lst ([L.getD v.toNat default, R.getD v.toNat default - 1].map V.int)))
/-- the changes at the touched gaps -/
def chgAt (R L R' L' : List Int) (g : Int) : List (List V) := if stateOf R L g = stateOf R' L' g then [] else [[.int g, .str (stateOf R L g), .str (stateOf R' L' g)]]
def chgF (R L : List Int) (o : Int) : List (List V) := chgAt R L (apR L R o) (apL L R o) (L.getD o.natAbs default) ++ chgAt R L (apR L R o) (apL L R o) (R.getD o.natAbs default - 1)
/-- the refusals of an operation -/
def refuseSp (a : AD) (n o : Int) (F : List Bool) (H : Hp) (E : XK) (k : Prop) : Prop := (¬IsOp n o → xBadOperation a (.int o) (.int 0) E H) ∧ (IsOp n o → F.getD o.natAbs default = decide (o < 0) → xIllegal a (.int o) (.int 0) E H) ∧ (IsOp n o → F.getD o.natAbs default ≠ decide (o < 0) → k)
def sp_gap_changes (a : AD) : Sp := fun vs H Q E => ∃ (x l r f : Addr) (n o : Int) (L R : List Int) (F : List Bool), vs = [.ref x, .int o] ∧ Obj a H x l r f n L R F ∧
  refuseSp a n o F H E (0 ≤ L.getD o.natAbs default ∧ L.getD o.natAbs default ≤ n ∧ 1 ≤ R.getD o.natAbs default ∧ R.getD o.natAbs default ≤ n + 1 ∧ ∀ p xs H', H p = none → Kp [] H H' → H' p = some (.lst xs) → Tps H' xs (chgF R L o) → Q (.ref p) H')
/-- the gaps of the foreign writes -/
def frgF (R L : List Int) (v : Int) : List Int := (if L.getD v.toNat default ≠ v - 1 ∧ R.getD (L.getD v.toNat default).toNat default = L.getD v.toNat default + 1 then [L.getD v.toNat default] else []) ++
  (if R.getD v.toNat default ≠ v + 1 ∧ L.getD (R.getD v.toNat default).toNat default = R.getD v.toNat default - 1 then [R.getD v.toNat default - 1] else [])
def sp_foreign_writes (a : AD) : Sp := fun vs H Q E => ∃ (x l r f : Addr) (n o : Int) (L R : List Int) (F : List Bool), vs = [.ref x, .int o] ∧ Obj a H x l r f n L R F ∧
  refuseSp a n o F H E (0 ≤ L.getD o.natAbs default ∧ L.getD o.natAbs default ≤ n ∧ 1 ≤ R.getD o.natAbs default ∧ R.getD o.natAbs default ≤ n + 1 ∧ ∀ p H', H p = none → Kp [] H H' → H' p = some (.lst ((frgF R L (o.natAbs : Int)).map V.int)) → Q (.ref p) H')
theorem sc_foreign_writes : FnScope ["links", "operation", "node", "left", "right", "gaps"] ["links", "operation"] (defScope s_foreign_writes) := ⟨rfl, rfl, rfl, by decide +kernel, rfl, by decide +kernel, by decide +kernel⟩
theorem ok_foreign_writes {P : Program} {w : World} {K : PySem.W.Frag} {mg : Str → Option Value} {base : Heap} {a : AD} (T : Txt P K mg a) (G_check_operation : FnA P w K mg base 2 a.f_check_operation ["size", "operation", "index"] (sp_check_operation a)) (G_Links_operation_on : FnA P w K mg base 2 a.f_Links_operation_on ["self", "node"] (sp_Links_operation_on a)) (G_Links_left : FnA P w K mg base 2 a.f_Links_left ["self", "node"] (sp_Links_left a)) (G_Links_right : FnA P w K mg base 2 a.f_Links_right ["self", "node"] (sp_Links_right a)) (G_left_holds : FnA P w K mg base 3 a.f_left_holds ["links", "gap"] (sp_left_holds a)) (G_right_holds : FnA P w K mg base 3 a.f_right_holds ["links", "gap"] (sp_right_holds a)) : FnA P w K mg base 4 a.f_foreign_writes ["links", "operation"] (sp_foreign_writes a) := by
  obtain ⟨fd, F, b⟩ := T.F_foreign_writes
  refine FnA.of F sc_foreign_writes b (fun vs H Q E h => by first | (obtain ⟨rfl, _⟩ := h; rfl) | (obtain ⟨_, rfl, _⟩ := h; rfl) | (obtain ⟨_, _, rfl, _⟩ := h; rfl) | (obtain ⟨_, _, _, rfl, _⟩ := h; rfl) | (obtain ⟨_, _, _, _, rfl, _⟩ := h; rfl) | (obtain ⟨_, _, _, _, _, rfl, _⟩ := h; rfl) | (obtain ⟨_, _, _, _, _, _, rfl, _⟩ := h; rfl) | (obtain ⟨_, _, _, _, _, _, _, rfl, _⟩ := h; rfl) | (obtain ⟨_, _, _, _, _, _, _, _, rfl, _⟩ := h; rfl) | (obtain ⟨_, _, _, _, _, _, _, _, _, rfl, _⟩ := h; rfl) | (obtain ⟨_, _, _, _, _, _, _, _, _, _, rfl, _⟩ := h; rfl) | (obtain ⟨_, _, _, _, _, _, _, _, _, _, _, rfl, _⟩ := h; rfl) | (obtain ⟨_, _, _, _, _, _, _, _, _, _, _, _, rfl, _⟩ := h; rfl) | (obtain ⟨_, _, _, _, _, _, _, _, _, _, _, _, _, rfl, _⟩ := h; rfl) | (obtain ⟨_, _, _, _, _, _, _, _, _, _, _, _, _, _, rfl, _⟩ := h; rfl) | (obtain ⟨_, _, _, _, _, _, _, _, _, _, _, _, _, _, _, rfl, _⟩ := h; rfl) | (obtain ⟨_, _, _, _, _, _, _, _, _, _, _, _, _, _, _, _, rfl, _⟩ := h; rfl) | (obtain ⟨_, _, _, _, _, _, _, _, _, _, _, _, _, _, _, _, _, rfl, _⟩ := h; rfl) | (obtain ⟨_, _, _, _, _, _, _, _, _, _, _, _, _, _, _, _, _, _, rfl, _⟩ := h; rfl) | (obtain ⟨_, _, _, _, _, _, _, _, _, _, _, _, _, _, _, _, _, _, _, rfl, _⟩ := h; rfl) | (obtain ⟨_, _, _, _, _, _, _, _, _, _, _, _, _, _, _, _, _, _, _, _, rfl, _⟩ := h; rfl) | (obtain ⟨_, _, _, _, _, _, _, _, _, _, _, _, _, _, _, _, _, _, _, _, _, rfl, _⟩ := h; rfl) | (obtain ⟨_, _, _, _, _, _, _, _, _, _, _, _, _, _, _, _, _, _, _, _, _, _, rfl, _⟩ := h; rfl) | (obtain ⟨_, _, _, _, _, _, _, _, _, _, _, _, _, _, _, _, _, _, _, _, _, _, _, rfl, _⟩ := h; rfl)) (fun cdv A outer s H vs Q E hr tk pz h => ?_)
  have hu := hr.units
  have hrH := L2H.roomH_of hr
  obtain ⟨x, l, r, f, n, o, L, R, F, rfl, hO, hb, hi, hgo⟩ := h
  have hx := hO.1.1.choose_spec
  have n0 := hO.2.1
  have n1 := hO.2.2.1
  refine ⟨_, (pss_cons (ps_expr (pe_callA G_check_operation (Room.mono hr (by decide)) T.n_check_operation tk (pa_cons (pe_fld (pv 0) rfl) (pa_cons (pv 1) (pa_cons pe_int pa_nil)))))
      (pss_cons (ps_set (i := 2) sc_foreign_writes.nd rfl (Or.inl rfl) (pe_callB (b_abs) rfl T.b_abs (by decide +kernel) (pa_cons (pv 1) pa_nil)))
      (pss_cons (ps_if (pt_cmpA (o_ne hu) (pe_methS (pl := _) G_Links_operation_on (Room.mono hr (by decide)) T.cl_Links T.me_Links_operation_on tk (pv 0) (pa_cons (pv 2) pa_nil)) (pv 1) (nomark _)) (pss_one (L2N.ps_raise rfl tk (Lk.pmk_own T.x_Illegal (List.cons_ne_nil _ _) hr T.c_Illegal (by exact (pa_cons (pv 1) (pa_cons pe_int pa_nil))) rfl))) pss_nil)
      (pss_cons (ps_set (i := 3) sc_foreign_writes.nd rfl (Or.inl rfl) (pe_methS (pl := _) G_Links_left (Room.mono hr (by decide)) T.cl_Links T.me_Links_left tk (pv 0) (pa_cons (pv 2) pa_nil)))
      (pss_cons (ps_set (i := 4) sc_foreign_writes.nd rfl (Or.inl rfl) (pe_methS (pl := _) G_Links_right (Room.mono hr (by decide)) T.cl_Links T.me_Links_right tk (pv 0) (pa_cons (pv 2) pa_nil)))
      (pss_cons (ps_set (i := 5) sc_foreign_writes.nd rfl (Or.inl rfl) (pe_lst pa_nil))
      (pss_cut (ps_if (PW.pt (pw_and (pt_cmpA (o_ne hu) (pv 3) (pe_op op_sub (pv 2) pe_int) (nomark _)) (pw_and1 (pt_tru (pe_callA G_left_holds (Room.mono hr (by decide)) T.n_left_holds tk (pa_cons (pv 0) (pa_cons (pv 3) pa_nil))))))) (pss_one (ps_expr (pe_bm PySem.F.plainAttrs_list PySem.F.slot_list_append PySem.F.type_list_append mt_append (pv 5) (pa_cons (pv 3) pa_nil)))) pss_nil)
      (pss_cons (ps_if (PW.pt (pw_and (pt_cmpA (o_ne hu) (pv 4) (pe_op o_add (pv 2) pe_int) (nomark _)) (pw_and1 (pt_tru (pe_callA G_right_holds (Room.mono hr (by decide)) T.n_right_holds tk (pa_cons (pv 0) (pa_cons (pe_op op_sub (pv 4) pe_int) pa_nil))))))) (pss_one (ps_expr (pe_bm PySem.F.plainAttrs_list PySem.F.slot_list_append PySem.F.type_list_append mt_append (pv 5) (pa_cons (pe_op op_sub (pv 4) pe_int) pa_nil)))) pss_nil)
      (pss_one (ps_ret (pv 5))))))))))), ?_⟩
  show (_ : Ends → L2.St → Hp → Prop) _ [some _, some _, none, none, none, none] _
  try dsimp only [L2H.cxH, cxOf]
  walk_at "w"
  refine ⟨n, o, 0, rfl, hb, fun hop => ?_⟩
  have ho1 := hop.1
  have ho2 := hop.2
  walk_at "w"
  refine ⟨x, l, r, f, n, (o.natAbs : Int), L, R, F, rfl, hO, by omega, by omega, ?_⟩
  simp only [Int.toNat_natCast]
  walk_at "w"
  have cond : (if F.getD o.natAbs default = true then (o.natAbs : Int) else -(o.natAbs : Int)) = o ↔ F.getD o.natAbs default ≠ decide (o < 0) := by
    by_cases c1 : F.getD o.natAbs default = true
    · rw [if_pos c1, c1]
      by_cases c2 : o < 0
      · rw [show decide (o < 0) = true by simpa using c2]
        exact ⟨fun z => by omega, fun z => absurd rfl z⟩
      · rw [show decide (o < 0) = false by simpa using c2]
        exact ⟨fun _ => by decide, fun _ => by omega⟩
    · rw [if_neg c1, show F.getD o.natAbs default = false by simpa using c1]
      by_cases c2 : o < 0
      · rw [show decide (o < 0) = true by simpa using c2]
        exact ⟨fun _ => by decide, fun _ => by omega⟩
      · rw [show decide (o < 0) = false by simpa using c2]
        exact ⟨fun z => by omega, fun z => absurd rfl z⟩
  refine w_iteN (fun c => ?_) (fun c => ?_)
  · walk_at "w"
    refine ⟨rfl, fun d hd => hi hop ?_ d _ hd upd_same (Kp.refl.new hd)⟩
    by_cases z : F.getD o.natAbs default = decide (o < 0)
    · exact z
    · exact absurd (cond.mpr z) c
  · obtain ⟨b1, b2, b3, b4, k⟩ := hgo hop (cond.mp c)
    unfold frgF at k
    simp only [Int.toNat_natCast] at k
    walk_at "w"
    refine ⟨x, l, r, f, n, (o.natAbs : Int), L, R, F, rfl, hO.1, hO.2.2.2.1, fun z => absurd ⟨by omega, by omega⟩ z, fun _ _ => ?_⟩
    simp only [Int.toNat_natCast]
    walk_at "w"
    refine ⟨x, l, r, f, n, (o.natAbs : Int), L, R, F, rfl, hO.1, hO.2.2.2.2.1, fun z => absurd ⟨by omega, by omega⟩ z, fun _ _ => ?_⟩
    simp only [Int.toNat_natCast]
    walk_at "w"
    intro p hp
    have hxp : x ≠ p := ne_of_none hx hp
    have hp1 : upd H p (.lst []) p = some (.lst (([] : List Int).map V.int)) := upd_same
    have hk1 : Kp [] H (upd H p (.lst [])) := Kp.refl.new hp
    generalize upd H p (.lst []) = H1 at hp1 hk1
    walk_at "w"
    generalize L.getD o.natAbs default = lo at b1 b2 k ⊢
    generalize R.getD o.natAbs default = hi at b3 b4 k ⊢
    have hO1 := hO.kp0 hk1
    -- the second half, whatever the first has found
    have half : ∀ (us : List Int) (H2 : Hp), us.length ≤ 1 → us = (if lo ≠ (o.natAbs : Int) - 1 ∧ R.getD lo.toNat default = lo + 1 then [lo] else []) → H2 p = some (.lst (us.map V.int)) → Kp [] H H2 → ∀ us2, us2 = us ++ (if hi ≠ (o.natAbs : Int) + 1 ∧ L.getD hi.toNat default = hi - 1 then [hi - 1] else []) → ∀ H3, H3 p = some (.lst (us2.map V.int)) → Kp [] H H3 → Q (.ref p) H3 := by
      intro us H2 _ e _ _ us2 e2 H3 h3 k3
      rw [e2, e] at h3
      exact k p H3 hp k3 h3
    refine s_cut (fun σ' H' => Kp [] H H' ∧ H' p = some (.lst ((if lo ≠ (o.natAbs : Int) - 1 ∧ R.getD lo.toNat default = lo + 1 then [lo] else []).map V.int)) ∧ σ' = [some (.ref x), some (.int o), some (.int (o.natAbs : Int)), some (.int lo), some (.int hi), some (.ref p)]) ?_ ?_
    · walk_at "w"
      refine w_iteN (fun c1 => ?_) (fun c1 => ?_)
      · walk_at "w"
        refine ⟨x, l, r, f, n, lo, L, R, F, rfl, hO1, b1, b2, ?_⟩
        walk_at "w"
        refine w_ite (fun c2 => ?_) (fun c2 => ?_)
        · walk_at "w"
          rw [if_pos ⟨c1, c2⟩]
          exact ⟨hk1.own hp, upd_same, rfl⟩
        · walk_at "w"
          rw [if_neg (fun z => c2 z.2)]
          exact ⟨hk1, hp1, rfl⟩
      · walk_at "w"
        rw [if_neg (fun z => z.1 c1)]
        exact ⟨hk1, hp1, rfl⟩
    · rintro σ' H2 ⟨hk2, hp2, rfl⟩
      have hlen : (if lo ≠ (o.natAbs : Int) - 1 ∧ R.getD lo.toNat default = lo + 1 then [lo] else []).length ≤ 1 := by split <;> simp
      have hh := half _ H2 hlen rfl hp2 hk2
      generalize (if lo ≠ (o.natAbs : Int) - 1 ∧ R.getD lo.toNat default = lo + 1 then [lo] else []) = us at hp2 hlen hh
      have hO2 := hO.kp0 hk2
      walk_at "w"
      refine w_iteN (fun c1 => ?_) (fun c1 => ?_)
      · walk_at "w"
        refine ⟨x, l, r, f, n, hi - 1, L, R, F, rfl, hO2, by omega, by omega, ?_⟩
        rw [show hi - 1 + 1 = hi by omega]
        walk_at "w"
        refine w_ite (fun c2 => ?_) (fun c2 => ?_)
        · walk_at "w"
          exact hh _ (by rw [if_pos ⟨c1, c2⟩]) _ upd_same (hk2.own hp)
        · walk_at "w"
          exact hh us (by rw [if_neg (fun z => c2 z.2), List.append_nil]) H2 hp2 hk2
      · walk_at "w"
        exact hh us (by rw [if_neg (fun z => z.1 c1), List.append_nil]) H2 hp2 hk2

/-! ### runs of operations -/
def stS (s : List Int × List Int × List Bool) (o : Int) : List Int × List Int × List Bool := (apR s.2.1 s.1 o, apL s.2.1 s.1 o, apF s.2.2 o)
def runS (s : List Int × List Int × List Bool) (log : List Int) : List Int × List Int × List Bool := log.foldl stS s
def OkAt (n : Int) (s : List Int × List Int × List Bool) (o : Int) : Prop := IsOp n o ∧ s.2.2.getD o.natAbs default ≠ decide (o < 0)
def WFs (n : Int) (s : List Int × List Int × List Bool) : Prop := WF n s.1 s.2.1 s.2.2
def okTo (n : Int) (s : List Int × List Int × List Bool) (log : List Int) (i : Nat) : Prop := ∀ (j : Nat) (o : Int), j < i → log[j]? = some o → OkAt n (runS s (log.take j)) o
theorem runS_snoc (s : List Int × List Int × List Bool) (l : List Int) (o : Int) : runS s (l ++ [o]) = stS (runS s l) o := by
  unfold runS
  rw [List.foldl_append]; rfl
theorem runS_wf {n : Int} {s : List Int × List Int × List Bool} {log : List Int} (w : WFs n s) : ∀ i, i ≤ log.length → okTo n s log i → WFs n (runS s (log.take i))
  | 0, _, _ => w
  | i + 1, hi, h => by
    have hu : log[i]? = some log[i] := List.getElem?_eq_getElem (by omega)
    have ih := runS_wf w i (by omega) (fun j o hj => h j o (by omega))
    rw [take_snoc hu, runS_snoc]
    exact WF.ap ih (h i _ (by omega) hu).1
/-- what a run over the log asks -/
def playSp (a : AD) (n : Int) (s : List Int × List Int × List Bool) (log : List Int) (H : Hp) (E : XK) (k : Prop) : Prop :=
  (∀ (i : Nat) (o : Int), log[i]? = some o → okTo n s log i → ¬IsOp n o → xBadOperation a (.int o) (.int (i : Int)) E H) ∧
  (∀ (i : Nat) (o : Int), log[i]? = some o → okTo n s log i → IsOp n o → (runS s (log.take i)).2.2.getD o.natAbs default = decide (o < 0) → xIllegal a (.int o) (.int (i : Int)) E H) ∧
  (okTo n s log log.length → k)
def sp_play (a : AD) : Sp := fun vs H Q E => ∃ (x l r f pl : Addr) (n : Int) (s : List Int × List Int × List Bool) (log : List Int), vs = [.ref x, .ref pl] ∧ Lnk a H x l r f n s.2.1 (s.1 ++ [n + 2]) s.2.2 ∧ WFs n s ∧ H pl = some (.lst (log.map V.int)) ∧ log.length ≤ 100000 ∧
  playSp a n s log H E (newSp a n (runS s log).2.1 ((runS s log).1 ++ [n + 2]) (runS s log).2.2 H Q)

/-! ### a new list -/
theorem gd_app {us : List Int} {x : Int} {i : Nat} (h : i < us.length) : (us ++ [x]).getD i default = us.getD i default := by
  rw [List.getD_eq_getElem?_getD, List.getD_eq_getElem?_getD, List.getElem?_append_left h]
theorem tps_app {H : Hp} {p T : Addr} {xs vs : List V} {ts : List (List V)} (hp : H p = some (.lst xs)) (h : Tps H xs ts) (hT : H T = none) : Tps (upd (upd H T (.tup vs)) p (.lst (xs ++ [.ref T]))) (xs ++ [.ref T]) (ts ++ [vs]) :=
  Tps.snoc ((h.new hT).mut (upd_new hT hp)) (upd_get (Ne.symm (ne_of_none hp hT)) upd_same)
theorem nm_sub {g : Addr} {xs ys : List Addr} (h : g ∉ ys) (s : ∀ z ∈ xs, z ∈ ys) : g ∉ xs := fun z => h (s _ z)
theorem nm_swap {q : Addr} {xs : List Addr} (h : q ∉ xs) : ∀ y ∈ xs, y ∉ [q] := fun y hy z => h (by rw [List.mem_singleton.mp z] at hy; exact hy)
/-- one fresh address is none of those that stand -/
theorem nm_of {H : Hp} {q : Addr} {ys : List Addr} (h : H q = none) (live : ∀ y ∈ ys, ∃ o, H y = some o) : q ∉ ys := fun z => by
  obtain ⟨o, e⟩ := live q z
  rw [h] at e; cases e
theorem rgI_l0 (n : Int) : rgI (-1) (n + 1) = l0 n := by
  unfold rgI l0
  rw [show (n + 1 - -1).toNat = (n + 2).toNat by omega]
  exact List.map_congr_left fun i _ => by omega
theorem rgI_r0 {n : Int} (n0 : 0 ≤ n) : rgI 1 (n + 3) = r0 n ++ [n + 2] := by
  unfold rgI r0
  rw [show (n + 3 - 1).toNat = (n + 1).toNat + 1 by omega, List.range_succ, List.map_append]
  refine congr (congrArg _ ?_) ?_
  · exact List.map_congr_left fun i _ => by omega
  · simp; omega
def s0 (n : Int) : List Int × List Int × List Bool := (r0 n, l0 n, List.replicate (n + 2).toNat false)
theorem wfs0 {n : Int} (n0 : 0 ≤ n) (n1 : n ≤ 60) : WFs n (s0 n) := wf0 n0 n1
/-- the object at x bears the standing s -/
def LkS (a : AD) (H : Hp) (x l r f : Addr) (n : Int) (s : List Int × List Int × List Bool) : Prop := Lnk a H x l r f n s.2.1 (s.1 ++ [n + 2]) s.2.2
theorem LkS.kp0 {a : AD} {H H' : Hp} {x l r f : Addr} {n : Int} {s : List Int × List Int × List Bool} (h : LkS a H x l r f n s) (k : Kp [] H H') : LkS a H' x l r f n s := Lnk.kp0 h k
theorem LkS.obj {a : AD} {H : Hp} {x l r f : Addr} {n : Int} {s : List Int × List Int × List Bool} (h : LkS a H x l r f n s) (W : WFs n s) : Obj a H x l r f n s.2.1 (s.1 ++ [n + 2]) s.2.2 :=
  ⟨h, WF.n0 W, WF.n1 W, WF.hL W, by rw [List.length_append, WF.hR W]; have := WF.n0 W; simp; omega, WF.hF W⟩
/-- what `Links(size)` asks -/
theorem mk_new {a : AD} {n : Int} {H : Hp} {Q : Addr → Hp → Prop} {E : XK} (hb : ¬(0 ≤ n ∧ n ≤ 60) → xBadSize a (.int n) E H) (k : 0 ≤ n → n ≤ 60 → ∀ (x l r f : Addr) (H' : Hp), H x = none → H l = none → H r = none → H f = none → LkS a H' x l r f n (s0 n) → Kp [] H H' → Q x H') :
    ∀ x dx, H x = none → H dx = none → dx ≠ x → sp_Links___init__ a (.ref x :: [.int n]) (upd (upd H dx (.own x)) x (.ins a.Links dx [])) (fun v H2 => v = .non ∧ Q x H2) E := by
  intro x dx hx hdx hne
  have kx : Kp [] H (upd (upd H dx (.own x)) x (.ins a.Links dx [])) := (Kp.refl.new hdx).own hx
  have fr : ∀ p, upd (upd H dx (.own x)) x (.ins a.Links dx []) p = none → H p = none := fun p h => kx.free h
  refine ⟨x, dx, n, rfl, upd_same, fun z d H' h1 h2 h3 => hb z d H' (fr d h1) h2 (kx.trans h3), fun n0 n1 l r f H1 hl hr hf hL k1 => ⟨rfl, ?_⟩⟩
  rw [rgI_l0, rgI_r0 n0] at hL
  have k0 : Kp [] H H1 := fun b o e _ => k1 b o (kx.at0 e) (by simp; intro z; subst z; rw [hx] at e; cases e)
  exact k n0 n1 x l r f H1 hx (fr l hl) (fr r hr) (fr f hf) hL k0
/-- one more operation of a log, on the object -/
theorem ap_step {a : AD} {H : Hp} {Q : VK} {E : XK} {x l r f : Addr} {n : Int} {s t : List Int × List Int × List Bool} {log : List Int} {i : Nat} {o : Int} (W : WFs n t) (hu : log[i]? = some o) (hok : okTo n t log i) (e : s = runS t (log.take i)) (hil : i ≤ log.length) (h : LkS a H x l r f n s)
    (hb : ¬IsOp n o → xBadOperation a (.int o) (.int (i : Int)) E H) (hi : IsOp n o → s.2.2.getD o.natAbs default = decide (o < 0) → xIllegal a (.int o) (.int (i : Int)) E H)
    (k : OkAt n s o → WFs n s → okTo n t log (i + 1) → ∀ H', LkS a H' x l r f n (stS s o) → Kp [l, r, f] H H' → Q .non H') : sp_Links_apply_at a [.ref x, .int o, .int (i : Int)] H Q E := by
  have Wi : WFs n s := e ▸ runS_wf W i hil hok
  have n0 := WF.n0 Wi
  have hR := WF.hR Wi
  have hL := WF.hL Wi
  refine ⟨x, l, r, f, n, o, i, _, _, _, rfl, h, hL, by rw [List.length_append, hR]; simp; omega, WF.hF Wi, hb, hi, fun hop hfl => ?_⟩
  have ho1 := hop.1
  have ho2 := hop.2
  have qa := WF.at Wi (v := o.natAbs) (by omega) ho2
  have eR : (s.1 ++ [n + 2]).getD o.natAbs default = s.1.getD o.natAbs default := by
    rw [List.getD_eq_getElem?_getD, List.getD_eq_getElem?_getD, List.getElem?_append_left (by omega)]
  refine ⟨by omega, by omega, by omega, by omega, fun H2 hY k2 => ?_⟩
  have ea := ap_app Wi (x := n + 2) hop
  rw [ea.1, ea.2] at hY
  refine k ⟨hop, hfl⟩ Wi (fun j p hj hp => ?_) H2 hY k2
  by_cases z : j < i
  · exact hok j p z hp
  · obtain rfl : j = i := by omega
    rw [hu] at hp
    cases hp
    rw [← e]
    exact ⟨hop, hfl⟩
/-- changes of a new object are none to the rest -/
theorem kp_new3 {H H1 H2 : Hp} {l r f : Addr} (k1 : Kp [] H H1) (hl : H l = none) (hr : H r = none) (hf : H f = none) (k2 : Kp [l, r, f] H1 H2) : Kp [] H H2 := fun b o e _ => k2 b o (k1.at0 e) (by
  intro z
  simp only [List.mem_cons, List.mem_nil_iff, or_false] at z
  rcases z with rfl | rfl | rfl
  · rw [hl] at e; cases e
  · rw [hr] at e; cases e
  · rw [hf] at e; cases e)

/-! ### due nodes, debts -/
/-- is the node due -/
def dueP (s : List Int × List Int × List Bool) (v : Int) : Prop := s.2.2.getD v.toNat default = true ∨ stateOf s.1 s.2.1 v = ("left" : Str) ∨ stateOf s.1 s.2.1 (v - 1) = ("right" : Str)
instance (s : List Int × List Int × List Bool) (v : Int) : Decidable (dueP s v) := inferInstanceAs (Decidable (_ ∨ _))
theorem gap_app {n : Int} {s : List Int × List Int × List Bool} (W : WFs n s) {g x : Int} (g0 : 0 ≤ g) (g1 : g ≤ n) : stateOf (s.1 ++ [x]) s.2.1 g = stateOf s.1 s.2.1 g := by
  obtain ⟨m, rfl⟩ := Int.eq_ofNat_of_zero_le g0
  exact state_app W (by omega)
def shareF (s : List Int × List Int × List Bool) (v : Int) : Int := if s.2.2.getD v.toNat default = true then 1 else 2
def dueL (n : Int) (s : List Int × List Int × List Bool) : List Int := (List.range n.toNat).filterMap fun i : Nat => if dueP s (1 + (i : Int)) then some (1 + (i : Int)) else none
def debtF (n : Int) (s : List Int × List Int × List Bool) : Int := ((dueL n s).map (shareF s)).sum
theorem dueL_in {n : Int} {s : List Int × List Int × List Bool} : ∀ v ∈ dueL n s, 1 ≤ v ∧ v ≤ n ∧ dueP s v := by
  intro v hv
  unfold dueL at hv
  obtain ⟨i, hi, e⟩ := List.mem_filterMap.mp hv
  have hi := List.mem_range.mp hi
  by_cases c : dueP s (1 + (i : Int))
  · rw [if_pos c] at e; cases e; exact ⟨by omega, by omega, c⟩
  · rw [if_neg c] at e; cases e
theorem dueL_len (n : Int) (s : List Int × List Int × List Bool) : (dueL n s).length ≤ n.toNat := by
  unfold dueL
  refine Nat.le_trans (List.length_filterMap_le _ _) ?_
  rw [List.length_range]; exact Nat.le_refl _
def sp_Links_is_out (a : AD) : Sp := fun vs H Q E => ∃ (x l r f : Addr) (n v : Int) (L R : List Int) (F : List Bool), vs = [.ref x, .int v] ∧ Lnk a H x l r f n L R F ∧ F.length = (n + 2).toNat ∧ (¬(0 ≤ v ∧ v ≤ n + 1) → xBadNode a (.int v) E H) ∧ (0 ≤ v → v ≤ n + 1 → Q (.bl (F.getD v.toNat default)) H)
theorem sc_Links_is_out : FnScope ["self", "node"] ["self", "node"] (defScope s_Links_is_out) := ⟨rfl, rfl, rfl, by decide +kernel, rfl, by decide +kernel, by decide +kernel⟩
theorem ok_Links_is_out {P : Program} {w : World} {K : PySem.W.Frag} {mg : Str → Option Value} {base : Heap} {a : AD} (T : Txt P K mg a) : FnA P w K mg base 2 a.f_Links_is_out ["self", "node"] (sp_Links_is_out a) := by
  obtain ⟨fd, F, b⟩ := T.F_Links_is_out
  refine FnA.of F sc_Links_is_out b (fun vs H Q E h => by first | (obtain ⟨rfl, _⟩ := h; rfl) | (obtain ⟨_, rfl, _⟩ := h; rfl) | (obtain ⟨_, _, rfl, _⟩ := h; rfl) | (obtain ⟨_, _, _, rfl, _⟩ := h; rfl) | (obtain ⟨_, _, _, _, rfl, _⟩ := h; rfl) | (obtain ⟨_, _, _, _, _, rfl, _⟩ := h; rfl) | (obtain ⟨_, _, _, _, _, _, rfl, _⟩ := h; rfl) | (obtain ⟨_, _, _, _, _, _, _, rfl, _⟩ := h; rfl) | (obtain ⟨_, _, _, _, _, _, _, _, rfl, _⟩ := h; rfl) | (obtain ⟨_, _, _, _, _, _, _, _, _, rfl, _⟩ := h; rfl) | (obtain ⟨_, _, _, _, _, _, _, _, _, _, rfl, _⟩ := h; rfl) | (obtain ⟨_, _, _, _, _, _, _, _, _, _, _, rfl, _⟩ := h; rfl) | (obtain ⟨_, _, _, _, _, _, _, _, _, _, _, _, rfl, _⟩ := h; rfl) | (obtain ⟨_, _, _, _, _, _, _, _, _, _, _, _, _, rfl, _⟩ := h; rfl) | (obtain ⟨_, _, _, _, _, _, _, _, _, _, _, _, _, _, rfl, _⟩ := h; rfl) | (obtain ⟨_, _, _, _, _, _, _, _, _, _, _, _, _, _, _, rfl, _⟩ := h; rfl) | (obtain ⟨_, _, _, _, _, _, _, _, _, _, _, _, _, _, _, _, rfl, _⟩ := h; rfl) | (obtain ⟨_, _, _, _, _, _, _, _, _, _, _, _, _, _, _, _, _, rfl, _⟩ := h; rfl) | (obtain ⟨_, _, _, _, _, _, _, _, _, _, _, _, _, _, _, _, _, _, rfl, _⟩ := h; rfl) | (obtain ⟨_, _, _, _, _, _, _, _, _, _, _, _, _, _, _, _, _, _, _, rfl, _⟩ := h; rfl) | (obtain ⟨_, _, _, _, _, _, _, _, _, _, _, _, _, _, _, _, _, _, _, _, rfl, _⟩ := h; rfl) | (obtain ⟨_, _, _, _, _, _, _, _, _, _, _, _, _, _, _, _, _, _, _, _, _, rfl, _⟩ := h; rfl) | (obtain ⟨_, _, _, _, _, _, _, _, _, _, _, _, _, _, _, _, _, _, _, _, _, _, rfl, _⟩ := h; rfl) | (obtain ⟨_, _, _, _, _, _, _, _, _, _, _, _, _, _, _, _, _, _, _, _, _, _, _, rfl, _⟩ := h; rfl)) (fun cdv A outer s H vs Q E hr tk pz h => ?_)
  have hu := hr.units
  have hrH := L2H.roomH_of hr
  obtain ⟨x, l, r, f, n, v, L, R, F, rfl, ⟨⟨dx, hx⟩, hl, hr', hf, _⟩, h3, hb, k⟩ := h
  refine ⟨_, (pss_cons (ps_if (pt_not (pt_chainA op_le op_le pe_int (pv 1) (pe_op o_add (pe_fld (pv 0) rfl) pe_int))) (pss_one (L2N.ps_raise rfl tk (Lk.pmk_own T.x_BadNode (List.cons_ne_nil _ _) hr T.c_BadNode (by exact (pa_cons (pv 1) pa_nil)) rfl))) pss_nil)
      (pss_one (ps_ret (pe_ix ix_seq (pe_fld (pv 0) rfl) (pv 1) (fun _ _ => rfl))))), ?_⟩
  show (_ : Ends → L2.St → Hp → Prop) _ [some _, some _] _
  try dsimp only [L2H.cxH, cxOf]
  walk_at "w"
  refine w_ite (fun c1 => ?_) (fun c1 => ?_)
  · walk_at "w"
    refine w_iteN (fun c2 => ?_) (fun c2 => ?_)
    · walk_at "w"
      refine ⟨rfl, fun d hd => hb (fun z => c2 z.2) d _ hd upd_same (Kp.refl.new hd)⟩
    · walk_at "w"
      exact k c1 c2
  · walk_at "w"
    refine ⟨rfl, fun d hd => hb (fun z => c1 z.1) d _ hd upd_same (Kp.refl.new hd)⟩
def sp_is_due (a : AD) : Sp := fun vs H Q E => ∃ (x l r f : Addr) (n v : Int) (s : List Int × List Int × List Bool), vs = [.ref x, .int v] ∧ LkS a H x l r f n s ∧ WFs n s ∧ 1 ≤ v ∧ v ≤ n ∧ Q (.bl (decide (dueP s v))) H
theorem sc_is_due : FnScope ["links", "node"] ["links", "node"] (defScope s_is_due) := ⟨rfl, rfl, rfl, by decide +kernel, rfl, by decide +kernel, by decide +kernel⟩
theorem ok_is_due {P : Program} {w : World} {K : PySem.W.Frag} {mg : Str → Option Value} {base : Heap} {a : AD} (T : Txt P K mg a) (G_Links_is_out : FnA P w K mg base 2 a.f_Links_is_out ["self", "node"] (sp_Links_is_out a)) (G_gap_state : FnA P w K mg base 4 a.f_gap_state ["links", "gap"] (sp_gap_state a)) : FnA P w K mg base 5 a.f_is_due ["links", "node"] (sp_is_due a) := by
  obtain ⟨fd, F, b⟩ := T.F_is_due
  refine FnA.of F sc_is_due b (fun vs H Q E h => by first | (obtain ⟨rfl, _⟩ := h; rfl) | (obtain ⟨_, rfl, _⟩ := h; rfl) | (obtain ⟨_, _, rfl, _⟩ := h; rfl) | (obtain ⟨_, _, _, rfl, _⟩ := h; rfl) | (obtain ⟨_, _, _, _, rfl, _⟩ := h; rfl) | (obtain ⟨_, _, _, _, _, rfl, _⟩ := h; rfl) | (obtain ⟨_, _, _, _, _, _, rfl, _⟩ := h; rfl) | (obtain ⟨_, _, _, _, _, _, _, rfl, _⟩ := h; rfl) | (obtain ⟨_, _, _, _, _, _, _, _, rfl, _⟩ := h; rfl) | (obtain ⟨_, _, _, _, _, _, _, _, _, rfl, _⟩ := h; rfl) | (obtain ⟨_, _, _, _, _, _, _, _, _, _, rfl, _⟩ := h; rfl) | (obtain ⟨_, _, _, _, _, _, _, _, _, _, _, rfl, _⟩ := h; rfl) | (obtain ⟨_, _, _, _, _, _, _, _, _, _, _, _, rfl, _⟩ := h; rfl) | (obtain ⟨_, _, _, _, _, _, _, _, _, _, _, _, _, rfl, _⟩ := h; rfl) | (obtain ⟨_, _, _, _, _, _, _, _, _, _, _, _, _, _, rfl, _⟩ := h; rfl) | (obtain ⟨_, _, _, _, _, _, _, _, _, _, _, _, _, _, _, rfl, _⟩ := h; rfl) | (obtain ⟨_, _, _, _, _, _, _, _, _, _, _, _, _, _, _, _, rfl, _⟩ := h; rfl) | (obtain ⟨_, _, _, _, _, _, _, _, _, _, _, _, _, _, _, _, _, rfl, _⟩ := h; rfl) | (obtain ⟨_, _, _, _, _, _, _, _, _, _, _, _, _, _, _, _, _, _, rfl, _⟩ := h; rfl) | (obtain ⟨_, _, _, _, _, _, _, _, _, _, _, _, _, _, _, _, _, _, _, rfl, _⟩ := h; rfl) | (obtain ⟨_, _, _, _, _, _, _, _, _, _, _, _, _, _, _, _, _, _, _, _, rfl, _⟩ := h; rfl) | (obtain ⟨_, _, _, _, _, _, _, _, _, _, _, _, _, _, _, _, _, _, _, _, _, rfl, _⟩ := h; rfl) | (obtain ⟨_, _, _, _, _, _, _, _, _, _, _, _, _, _, _, _, _, _, _, _, _, _, rfl, _⟩ := h; rfl) | (obtain ⟨_, _, _, _, _, _, _, _, _, _, _, _, _, _, _, _, _, _, _, _, _, _, _, rfl, _⟩ := h; rfl)) (fun cdv A outer s H vs Q E hr tk pz h => ?_)
  have hu := hr.units
  have hrH := L2H.roomH_of hr
  obtain ⟨x, l, r, f, n, v, s, rfl, hL, W, v1, v2, k⟩ := h
  refine ⟨_, (pss_cons (ps_if (pt_tru (pe_methS (pl := _) G_Links_is_out (Room.mono hr (by decide)) T.cl_Links T.me_Links_is_out tk (pv 0) (pa_cons (pv 1) pa_nil))) (pss_one (ps_ret pe_bl)) pss_nil)
      (pss_one (ps_ret (pe_or (pe_cmpR (o_eq hu) (pe_callA G_gap_state (Room.mono hr (by decide)) T.n_gap_state tk (pa_cons (pv 0) (pa_cons (pv 1) pa_nil))) pe_str (nomark _)) (pe_one (pe_cmpR (o_eq hu) (pe_callA G_gap_state (Room.mono hr (by decide)) T.n_gap_state tk (pa_cons (pv 0) (pa_cons (pe_op op_sub (pv 1) pe_int) pa_nil))) pe_str (nomark _))))))), ?_⟩
  show (_ : Ends → L2.St → Hp → Prop) _ [some _, some _] _
  try dsimp only [L2H.cxH, cxOf]
  have hO := hL.obj W
  have hx := hL.1.choose_spec
  walk_at "w"
  refine ⟨x, l, r, f, n, v, _, _, _, rfl, hL, WF.hF W, fun z => absurd ⟨by omega, by omega⟩ z, fun _ _ => ?_⟩
  walk_at "w"
  refine w_iteb (fun c => ?_) (fun c => ?_)
  · walk_at "w"
    rw [decide_eq_true (show dueP s v from Or.inl c)] at k
    exact k
  walk_at "w"
  refine ⟨x, l, r, f, n, v, _, _, _, rfl, hO, fun z => absurd ⟨by omega, by omega⟩ z, fun _ _ => ?_⟩
  rw [gap_app W (by omega) (by omega)]
  walk_at "w"
  by_cases c1 : stateOf s.1 s.2.1 v = ("left" : Str)
  · rw [show decide (stateOf s.1 s.2.1 v = ("left" : Str)) = true by simpa using c1]
    walk_at "w"
    rw [decide_eq_true (show dueP s v from Or.inr (Or.inl c1))] at k
    exact k
  · rw [show decide (stateOf s.1 s.2.1 v = ("left" : Str)) = false by simpa using c1]
    walk_at "w"
    refine ⟨x, l, r, f, n, v - 1, _, _, _, rfl, hO, fun z => absurd ⟨by omega, by omega⟩ z, fun _ _ => ?_⟩
    rw [gap_app W (by omega) (by omega)]
    walk_at "w"
    have e : decide (dueP s v) = decide (stateOf s.1 s.2.1 (v - 1) = ("right" : Str)) := by
      apply decide_eq_decide.mpr
      unfold dueP
      rw [c]
      constructor
      · rintro (h | h | h)
        · cases h
        · exact absurd h c1
        · exact h
      · intro h; exact .inr (.inr h)
    rw [e] at k
    exact k
def sp__share (a : AD) : Sp := fun vs H Q E => ∃ (x l r f : Addr) (n v : Int) (s : List Int × List Int × List Bool), vs = [.ref x, .int v] ∧ LkS a H x l r f n s ∧ WFs n s ∧ 1 ≤ v ∧ v ≤ n ∧ Q (.int (shareF s v)) H
theorem sc__share : FnScope ["links", "node"] ["links", "node"] (defScope s__share) := ⟨rfl, rfl, rfl, by decide +kernel, rfl, by decide +kernel, by decide +kernel⟩
theorem ok__share {P : Program} {w : World} {K : PySem.W.Frag} {mg : Str → Option Value} {base : Heap} {a : AD} (T : Txt P K mg a) (G_Links_is_out : FnA P w K mg base 2 a.f_Links_is_out ["self", "node"] (sp_Links_is_out a)) : FnA P w K mg base 3 a.f__share ["links", "node"] (sp__share a) := by
  obtain ⟨fd, F, b⟩ := T.F__share
  refine FnA.of F sc__share b (fun vs H Q E h => by first | (obtain ⟨rfl, _⟩ := h; rfl) | (obtain ⟨_, rfl, _⟩ := h; rfl) | (obtain ⟨_, _, rfl, _⟩ := h; rfl) | (obtain ⟨_, _, _, rfl, _⟩ := h; rfl) | (obtain ⟨_, _, _, _, rfl, _⟩ := h; rfl) | (obtain ⟨_, _, _, _, _, rfl, _⟩ := h; rfl) | (obtain ⟨_, _, _, _, _, _, rfl, _⟩ := h; rfl) | (obtain ⟨_, _, _, _, _, _, _, rfl, _⟩ := h; rfl) | (obtain ⟨_, _, _, _, _, _, _, _, rfl, _⟩ := h; rfl) | (obtain ⟨_, _, _, _, _, _, _, _, _, rfl, _⟩ := h; rfl) | (obtain ⟨_, _, _, _, _, _, _, _, _, _, rfl, _⟩ := h; rfl) | (obtain ⟨_, _, _, _, _, _, _, _, _, _, _, rfl, _⟩ := h; rfl) | (obtain ⟨_, _, _, _, _, _, _, _, _, _, _, _, rfl, _⟩ := h; rfl) | (obtain ⟨_, _, _, _, _, _, _, _, _, _, _, _, _, rfl, _⟩ := h; rfl) | (obtain ⟨_, _, _, _, _, _, _, _, _, _, _, _, _, _, rfl, _⟩ := h; rfl) | (obtain ⟨_, _, _, _, _, _, _, _, _, _, _, _, _, _, _, rfl, _⟩ := h; rfl) | (obtain ⟨_, _, _, _, _, _, _, _, _, _, _, _, _, _, _, _, rfl, _⟩ := h; rfl) | (obtain ⟨_, _, _, _, _, _, _, _, _, _, _, _, _, _, _, _, _, rfl, _⟩ := h; rfl) | (obtain ⟨_, _, _, _, _, _, _, _, _, _, _, _, _, _, _, _, _, _, rfl, _⟩ := h; rfl) | (obtain ⟨_, _, _, _, _, _, _, _, _, _, _, _, _, _, _, _, _, _, _, rfl, _⟩ := h; rfl) | (obtain ⟨_, _, _, _, _, _, _, _, _, _, _, _, _, _, _, _, _, _, _, _, rfl, _⟩ := h; rfl) | (obtain ⟨_, _, _, _, _, _, _, _, _, _, _, _, _, _, _, _, _, _, _, _, _, rfl, _⟩ := h; rfl) | (obtain ⟨_, _, _, _, _, _, _, _, _, _, _, _, _, _, _, _, _, _, _, _, _, _, rfl, _⟩ := h; rfl) | (obtain ⟨_, _, _, _, _, _, _, _, _, _, _, _, _, _, _, _, _, _, _, _, _, _, _, rfl, _⟩ := h; rfl)) (fun cdv A outer s H vs Q E hr tk pz h => ?_)
  have hu := hr.units
  have hrH := L2H.roomH_of hr
  obtain ⟨x, l, r, f, n, v, s, rfl, hL, W, v1, v2, k⟩ := h
  refine ⟨_, (pss_cons (ps_if (pt_tru (pe_methS (pl := _) G_Links_is_out (Room.mono hr (by decide)) T.cl_Links T.me_Links_is_out tk (pv 0) (pa_cons (pv 1) pa_nil))) (pss_one (ps_ret pe_int)) pss_nil)
      (pss_one (ps_ret pe_int))), ?_⟩
  show (_ : Ends → L2.St → Hp → Prop) _ [some _, some _] _
  try dsimp only [L2H.cxH, cxOf]
  have hx := hL.1.choose_spec
  unfold shareF at k
  walk_at "w"
  refine ⟨x, l, r, f, n, v, _, _, _, rfl, hL, WF.hF W, fun z => absurd ⟨by omega, by omega⟩ z, fun _ _ => ?_⟩
  walk_at "w"
  refine w_iteb (fun c => ?_) (fun c => ?_)
  · rw [if_pos c] at k
    walk_at "w"
    exact k
  · rw [if_neg (by rw [c]; exact Bool.false_ne_true)] at k
    walk_at "w"
    exact k
def lostL (n : Int) (s : List Int × List Int × List Bool) : List Int := lostF n s.1 s.2.1
def sp_is_repairable (a : AD) : Sp := fun vs H Q E => ∃ (x l r f : Addr) (n : Int) (s : List Int × List Int × List Bool), vs = [.ref x] ∧ LkS a H x l r f n s ∧ WFs n s ∧ ∀ H', Kp [] H H' → Q (.bl (decide (lostL n s = []))) H'
theorem sc_is_repairable : FnScope ["links"] ["links"] (defScope s_is_repairable) := ⟨rfl, rfl, rfl, by decide +kernel, rfl, by decide +kernel, by decide +kernel⟩
theorem ok_is_repairable {P : Program} {w : World} {K : PySem.W.Frag} {mg : Str → Option Value} {base : Heap} {a : AD} (T : Txt P K mg a) (G_lost_gaps : FnA P w K mg base 6 a.f_lost_gaps ["links"] (sp_lost_gaps a)) : FnA P w K mg base 7 a.f_is_repairable ["links"] (sp_is_repairable a) := by
  obtain ⟨fd, F, b⟩ := T.F_is_repairable
  refine FnA.of F sc_is_repairable b (fun vs H Q E h => by first | (obtain ⟨rfl, _⟩ := h; rfl) | (obtain ⟨_, rfl, _⟩ := h; rfl) | (obtain ⟨_, _, rfl, _⟩ := h; rfl) | (obtain ⟨_, _, _, rfl, _⟩ := h; rfl) | (obtain ⟨_, _, _, _, rfl, _⟩ := h; rfl) | (obtain ⟨_, _, _, _, _, rfl, _⟩ := h; rfl) | (obtain ⟨_, _, _, _, _, _, rfl, _⟩ := h; rfl) | (obtain ⟨_, _, _, _, _, _, _, rfl, _⟩ := h; rfl) | (obtain ⟨_, _, _, _, _, _, _, _, rfl, _⟩ := h; rfl) | (obtain ⟨_, _, _, _, _, _, _, _, _, rfl, _⟩ := h; rfl) | (obtain ⟨_, _, _, _, _, _, _, _, _, _, rfl, _⟩ := h; rfl) | (obtain ⟨_, _, _, _, _, _, _, _, _, _, _, rfl, _⟩ := h; rfl) | (obtain ⟨_, _, _, _, _, _, _, _, _, _, _, _, rfl, _⟩ := h; rfl) | (obtain ⟨_, _, _, _, _, _, _, _, _, _, _, _, _, rfl, _⟩ := h; rfl) | (obtain ⟨_, _, _, _, _, _, _, _, _, _, _, _, _, _, rfl, _⟩ := h; rfl) | (obtain ⟨_, _, _, _, _, _, _, _, _, _, _, _, _, _, _, rfl, _⟩ := h; rfl) | (obtain ⟨_, _, _, _, _, _, _, _, _, _, _, _, _, _, _, _, rfl, _⟩ := h; rfl) | (obtain ⟨_, _, _, _, _, _, _, _, _, _, _, _, _, _, _, _, _, rfl, _⟩ := h; rfl) | (obtain ⟨_, _, _, _, _, _, _, _, _, _, _, _, _, _, _, _, _, _, rfl, _⟩ := h; rfl) | (obtain ⟨_, _, _, _, _, _, _, _, _, _, _, _, _, _, _, _, _, _, _, rfl, _⟩ := h; rfl) | (obtain ⟨_, _, _, _, _, _, _, _, _, _, _, _, _, _, _, _, _, _, _, _, rfl, _⟩ := h; rfl) | (obtain ⟨_, _, _, _, _, _, _, _, _, _, _, _, _, _, _, _, _, _, _, _, _, rfl, _⟩ := h; rfl) | (obtain ⟨_, _, _, _, _, _, _, _, _, _, _, _, _, _, _, _, _, _, _, _, _, _, rfl, _⟩ := h; rfl) | (obtain ⟨_, _, _, _, _, _, _, _, _, _, _, _, _, _, _, _, _, _, _, _, _, _, _, rfl, _⟩ := h; rfl)) (fun cdv A outer s H vs Q E hr tk pz h => ?_)
  have hu := hr.units
  have hrH := L2H.roomH_of hr
  obtain ⟨x, l, r, f, n, s, rfl, hL, W, k⟩ := h
  refine ⟨_, (pss_one (ps_ret (pe_cmpR (o_eq hu) (pe_callB (b_len) rfl T.b_len (by decide +kernel) (pa_cons (pe_callA G_lost_gaps (Room.mono hr (by decide)) T.n_lost_gaps tk (pa_cons (pv 0) pa_nil)) pa_nil)) pe_int (nomark _)))), ?_⟩
  show (_ : Ends → L2.St → Hp → Prop) _ [some _] _
  try dsimp only [L2H.cxH, cxOf]
  walk_at "w"
  refine ⟨x, l, r, f, n, _, _, _, rfl, hL.obj W, fun p H1 hp k1 hp1 => ?_⟩
  rw [lost_app W] at hp1
  walk_at "w"
  have e : decide (((lostF n s.1 s.2.1).length : Int) = 0) = decide (lostL n s = []) := by
    apply decide_eq_decide.mpr
    unfold lostL
    rw [← List.length_eq_zero_iff]; omega
  rw [e]
  exact k H1 k1
def sp_check_repairable (a : AD) : Sp := fun vs H Q E => ∃ (x l r f : Addr) (n : Int) (s : List Int × List Int × List Bool), vs = [.ref x] ∧ LkS a H x l r f n s ∧ WFs n s ∧ (∀ g rest, lostL n s = g :: rest → xNotRepairable a (.int g) E H) ∧ (lostL n s = [] → ∀ H', Kp [] H H' → Q .non H')
theorem sc_check_repairable : FnScope ["links", "lost"] ["links"] (defScope s_check_repairable) := ⟨rfl, rfl, rfl, by decide +kernel, rfl, by decide +kernel, by decide +kernel⟩
theorem ok_check_repairable {P : Program} {w : World} {K : PySem.W.Frag} {mg : Str → Option Value} {base : Heap} {a : AD} (T : Txt P K mg a) (G_lost_gaps : FnA P w K mg base 6 a.f_lost_gaps ["links"] (sp_lost_gaps a)) : FnA P w K mg base 7 a.f_check_repairable ["links"] (sp_check_repairable a) := by
  obtain ⟨fd, F, b⟩ := T.F_check_repairable
  refine FnA.of F sc_check_repairable b (fun vs H Q E h => by first | (obtain ⟨rfl, _⟩ := h; rfl) | (obtain ⟨_, rfl, _⟩ := h; rfl) | (obtain ⟨_, _, rfl, _⟩ := h; rfl) | (obtain ⟨_, _, _, rfl, _⟩ := h; rfl) | (obtain ⟨_, _, _, _, rfl, _⟩ := h; rfl) | (obtain ⟨_, _, _, _, _, rfl, _⟩ := h; rfl) | (obtain ⟨_, _, _, _, _, _, rfl, _⟩ := h; rfl) | (obtain ⟨_, _, _, _, _, _, _, rfl, _⟩ := h; rfl) | (obtain ⟨_, _, _, _, _, _, _, _, rfl, _⟩ := h; rfl) | (obtain ⟨_, _, _, _, _, _, _, _, _, rfl, _⟩ := h; rfl) | (obtain ⟨_, _, _, _, _, _, _, _, _, _, rfl, _⟩ := h; rfl) | (obtain ⟨_, _, _, _, _, _, _, _, _, _, _, rfl, _⟩ := h; rfl) | (obtain ⟨_, _, _, _, _, _, _, _, _, _, _, _, rfl, _⟩ := h; rfl) | (obtain ⟨_, _, _, _, _, _, _, _, _, _, _, _, _, rfl, _⟩ := h; rfl) | (obtain ⟨_, _, _, _, _, _, _, _, _, _, _, _, _, _, rfl, _⟩ := h; rfl) | (obtain ⟨_, _, _, _, _, _, _, _, _, _, _, _, _, _, _, rfl, _⟩ := h; rfl) | (obtain ⟨_, _, _, _, _, _, _, _, _, _, _, _, _, _, _, _, rfl, _⟩ := h; rfl) | (obtain ⟨_, _, _, _, _, _, _, _, _, _, _, _, _, _, _, _, _, rfl, _⟩ := h; rfl) | (obtain ⟨_, _, _, _, _, _, _, _, _, _, _, _, _, _, _, _, _, _, rfl, _⟩ := h; rfl) | (obtain ⟨_, _, _, _, _, _, _, _, _, _, _, _, _, _, _, _, _, _, _, rfl, _⟩ := h; rfl) | (obtain ⟨_, _, _, _, _, _, _, _, _, _, _, _, _, _, _, _, _, _, _, _, rfl, _⟩ := h; rfl) | (obtain ⟨_, _, _, _, _, _, _, _, _, _, _, _, _, _, _, _, _, _, _, _, _, rfl, _⟩ := h; rfl) | (obtain ⟨_, _, _, _, _, _, _, _, _, _, _, _, _, _, _, _, _, _, _, _, _, _, rfl, _⟩ := h; rfl) | (obtain ⟨_, _, _, _, _, _, _, _, _, _, _, _, _, _, _, _, _, _, _, _, _, _, _, rfl, _⟩ := h; rfl)) (fun cdv A outer s H vs Q E hr tk pz h => ?_)
  have hu := hr.units
  have hrH := L2H.roomH_of hr
  obtain ⟨x, l, r, f, n, s, rfl, hL, W, hb, k⟩ := h
  refine ⟨_, (pss_cons (ps_set (i := 1) sc_check_repairable.nd rfl (Or.inl rfl) (pe_callA G_lost_gaps (Room.mono hr (by decide)) T.n_lost_gaps tk (pa_cons (pv 0) pa_nil)))
      (pss_one (ps_if (pt_tru (pv 1)) (pss_one (L2N.ps_raise rfl tk (Lk.pmk_own T.x_NotRepairable (List.cons_ne_nil _ _) hr T.c_NotRepairable (by exact (pa_cons (pe_ix ix_seq (pv 1) pe_int (fun _ _ => rfl)) pa_nil)) rfl))) pss_nil))), ?_⟩
  show (_ : Ends → L2.St → Hp → Prop) _ [some _, none] _
  try dsimp only [L2H.cxH, cxOf]
  walk_at "w"
  refine ⟨x, l, r, f, n, _, _, _, rfl, hL.obj W, fun p H1 hp k1 hp1 => ?_⟩
  rw [lost_app W] at hp1
  cases e : lostL n s with
  | nil =>
    have e' : lostF n s.1 s.2.1 = [] := e
    rw [e'] at hp1
    walk_at "w"
    exact k e H1 k1
  | cons g rest =>
    have e' : lostF n s.1 s.2.1 = g :: rest := e
    rw [e'] at hp1
    walk_at "w"
    refine ⟨rfl, fun d hd => hb g rest e d _ (k1.free hd) upd_same (k1.new hd)⟩
def sp_due_nodes (a : AD) : Sp := fun vs H Q E => ∃ (x l r f : Addr) (n : Int) (s : List Int × List Int × List Bool), vs = [.ref x] ∧ LkS a H x l r f n s ∧ WFs n s ∧ ∀ p H', H p = none → Kp [] H H' → H' p = some (.lst ((dueL n s).map V.int)) → Q (.ref p) H'
theorem sc_due_nodes : FnScope ["links", "node"] ["links"] (defScope s_due_nodes) := ⟨rfl, rfl, rfl, by decide +kernel, rfl, by decide +kernel, by decide +kernel⟩
theorem ok_due_nodes {P : Program} {w : World} {K : PySem.W.Frag} {mg : Str → Option Value} {base : Heap} {a : AD} (T : Txt P K mg a) (G_is_due : FnA P w K mg base 5 a.f_is_due ["links", "node"] (sp_is_due a)) : FnA P w K mg base 6 a.f_due_nodes ["links"] (sp_due_nodes a) := by
  obtain ⟨fd, F, b⟩ := T.F_due_nodes
  refine FnA.of F sc_due_nodes b (fun vs H Q E h => by first | (obtain ⟨rfl, _⟩ := h; rfl) | (obtain ⟨_, rfl, _⟩ := h; rfl) | (obtain ⟨_, _, rfl, _⟩ := h; rfl) | (obtain ⟨_, _, _, rfl, _⟩ := h; rfl) | (obtain ⟨_, _, _, _, rfl, _⟩ := h; rfl) | (obtain ⟨_, _, _, _, _, rfl, _⟩ := h; rfl) | (obtain ⟨_, _, _, _, _, _, rfl, _⟩ := h; rfl) | (obtain ⟨_, _, _, _, _, _, _, rfl, _⟩ := h; rfl) | (obtain ⟨_, _, _, _, _, _, _, _, rfl, _⟩ := h; rfl) | (obtain ⟨_, _, _, _, _, _, _, _, _, rfl, _⟩ := h; rfl) | (obtain ⟨_, _, _, _, _, _, _, _, _, _, rfl, _⟩ := h; rfl) | (obtain ⟨_, _, _, _, _, _, _, _, _, _, _, rfl, _⟩ := h; rfl) | (obtain ⟨_, _, _, _, _, _, _, _, _, _, _, _, rfl, _⟩ := h; rfl) | (obtain ⟨_, _, _, _, _, _, _, _, _, _, _, _, _, rfl, _⟩ := h; rfl) | (obtain ⟨_, _, _, _, _, _, _, _, _, _, _, _, _, _, rfl, _⟩ := h; rfl) | (obtain ⟨_, _, _, _, _, _, _, _, _, _, _, _, _, _, _, rfl, _⟩ := h; rfl) | (obtain ⟨_, _, _, _, _, _, _, _, _, _, _, _, _, _, _, _, rfl, _⟩ := h; rfl) | (obtain ⟨_, _, _, _, _, _, _, _, _, _, _, _, _, _, _, _, _, rfl, _⟩ := h; rfl) | (obtain ⟨_, _, _, _, _, _, _, _, _, _, _, _, _, _, _, _, _, _, rfl, _⟩ := h; rfl) | (obtain ⟨_, _, _, _, _, _, _, _, _, _, _, _, _, _, _, _, _, _, _, rfl, _⟩ := h; rfl) | (obtain ⟨_, _, _, _, _, _, _, _, _, _, _, _, _, _, _, _, _, _, _, _, rfl, _⟩ := h; rfl) | (obtain ⟨_, _, _, _, _, _, _, _, _, _, _, _, _, _, _, _, _, _, _, _, _, rfl, _⟩ := h; rfl) | (obtain ⟨_, _, _, _, _, _, _, _, _, _, _, _, _, _, _, _, _, _, _, _, _, _, rfl, _⟩ := h; rfl) | (obtain ⟨_, _, _, _, _, _, _, _, _, _, _, _, _, _, _, _, _, _, _, _, _, _, _, rfl, _⟩ := h; rfl)) (fun cdv A outer s H vs Q E hr tk pz h => ?_)
  have hu := hr.units
  have hrH := L2H.roomH_of hr
  obtain ⟨x, l, r, f, n, s, rfl, hL, W, k⟩ := h
  refine ⟨_, (pss_one (ps_ret (pe_lc (own := [("node", 1)]) (g := (gName 1)) rfl sc_due_nodes.nd (pi_range2 rfl T.b_range (pa_cons pe_int (pa_cons (pe_op o_add (pe_fld (pv 0) rfl) pe_int) pa_nil))) (blkOk_by (own := [("node", 1)]) (N := ["links", "node"]) (sc := defScope s_due_nodes) (by decide +kernel)) (fun _ _ _ _ _ => (pg_name (i := 1) sc_due_nodes.nd rfl (Or.inl rfl))) (fun _ _ _ _ _ => (pts_one (show PT _ _ (cTru K _) from (pt_tru (pe_callA G_is_due (Room.mono hr (by decide)) T.n_is_due takes0 (pa_cons (pv 0) (pa_cons (pv 1) pa_nil))))))) (fun _ _ _ _ _ => (pv 1))))), ?_⟩
  show (_ : Ends → L2.St → Hp → Prop) _ [some _, none] _
  try dsimp only [L2H.cxH, cxOf]
  have n0 := WF.n0 W
  have n1 := WF.n1 W
  have hx := hL.1.choose_spec
  walk_at "w"
  refine w_lcR2 (f' := V.int) (fun i : Nat => if dueP s (1 + (i : Int)) then some (1 + (i : Int)) else none) (lo := 1) (n := n + 1) (by omega) (by omega) (by omega) (by omega) (by rw [sizeLine_eq]; omega) ?_ ?_
  · intro D i acc H' hD hi hk hA hlen
    walk_at "w"
    refine ⟨rfl, ?_⟩
    walk_at "w"
    refine ⟨x, l, r, f, n, 1 + (i : Int), s, rfl, hL.kp0 hk, W, by omega, by omega, ?_⟩
    walk_at "w"
    refine w_ite (fun c => ?_) (fun c => ?_)
    · walk_at "w"
      exact w_keep hk hA hlen hD (by rw [if_pos c])
    · walk_at "w"
      exact w_drop hk hA (by rw [if_neg c])
  · intro D H' hD hk hA
    rw [show (n + 1 - 1).toNat = n.toNat by omega] at hA
    exact k D H' hD hk hA
def sp_settled_debt (a : AD) : Sp := fun vs H Q E => ∃ (x l r f : Addr) (n : Int) (s : List Int × List Int × List Bool), vs = [.ref x] ∧ LkS a H x l r f n s ∧ WFs n s ∧ (lostL n s = [] → ∀ H', Kp [] H H' → Q (.int (debtF n s)) H') ∧ (lostL n s ≠ [] → ∀ H', Kp [] H H' → Q .non H')
theorem sc_settled_debt : FnScope ["links", "node"] ["links"] (defScope s_settled_debt) := ⟨rfl, rfl, rfl, by decide +kernel, rfl, by decide +kernel, by decide +kernel⟩
theorem ok_settled_debt {P : Program} {w : World} {K : PySem.W.Frag} {mg : Str → Option Value} {base : Heap} {a : AD} (T : Txt P K mg a) (G_is_repairable : FnA P w K mg base 7 a.f_is_repairable ["links"] (sp_is_repairable a)) (G__share : FnA P w K mg base 3 a.f__share ["links", "node"] (sp__share a)) (G_due_nodes : FnA P w K mg base 6 a.f_due_nodes ["links"] (sp_due_nodes a)) : FnA P w K mg base 8 a.f_settled_debt ["links"] (sp_settled_debt a) := by
  obtain ⟨fd, F, b⟩ := T.F_settled_debt
  refine FnA.of F sc_settled_debt b (fun vs H Q E h => by first | (obtain ⟨rfl, _⟩ := h; rfl) | (obtain ⟨_, rfl, _⟩ := h; rfl) | (obtain ⟨_, _, rfl, _⟩ := h; rfl) | (obtain ⟨_, _, _, rfl, _⟩ := h; rfl) | (obtain ⟨_, _, _, _, rfl, _⟩ := h; rfl) | (obtain ⟨_, _, _, _, _, rfl, _⟩ := h; rfl) | (obtain ⟨_, _, _, _, _, _, rfl, _⟩ := h; rfl) | (obtain ⟨_, _, _, _, _, _, _, rfl, _⟩ := h; rfl) | (obtain ⟨_, _, _, _, _, _, _, _, rfl, _⟩ := h; rfl) | (obtain ⟨_, _, _, _, _, _, _, _, _, rfl, _⟩ := h; rfl) | (obtain ⟨_, _, _, _, _, _, _, _, _, _, rfl, _⟩ := h; rfl) | (obtain ⟨_, _, _, _, _, _, _, _, _, _, _, rfl, _⟩ := h; rfl) | (obtain ⟨_, _, _, _, _, _, _, _, _, _, _, _, rfl, _⟩ := h; rfl) | (obtain ⟨_, _, _, _, _, _, _, _, _, _, _, _, _, rfl, _⟩ := h; rfl) | (obtain ⟨_, _, _, _, _, _, _, _, _, _, _, _, _, _, rfl, _⟩ := h; rfl) | (obtain ⟨_, _, _, _, _, _, _, _, _, _, _, _, _, _, _, rfl, _⟩ := h; rfl) | (obtain ⟨_, _, _, _, _, _, _, _, _, _, _, _, _, _, _, _, rfl, _⟩ := h; rfl) | (obtain ⟨_, _, _, _, _, _, _, _, _, _, _, _, _, _, _, _, _, rfl, _⟩ := h; rfl) | (obtain ⟨_, _, _, _, _, _, _, _, _, _, _, _, _, _, _, _, _, _, rfl, _⟩ := h; rfl) | (obtain ⟨_, _, _, _, _, _, _, _, _, _, _, _, _, _, _, _, _, _, _, rfl, _⟩ := h; rfl) | (obtain ⟨_, _, _, _, _, _, _, _, _, _, _, _, _, _, _, _, _, _, _, _, rfl, _⟩ := h; rfl) | (obtain ⟨_, _, _, _, _, _, _, _, _, _, _, _, _, _, _, _, _, _, _, _, _, rfl, _⟩ := h; rfl) | (obtain ⟨_, _, _, _, _, _, _, _, _, _, _, _, _, _, _, _, _, _, _, _, _, _, rfl, _⟩ := h; rfl) | (obtain ⟨_, _, _, _, _, _, _, _, _, _, _, _, _, _, _, _, _, _, _, _, _, _, _, rfl, _⟩ := h; rfl)) (fun cdv A outer s H vs Q E hr tk pz h => ?_)
  have hu := hr.units
  have hrH := L2H.roomH_of hr
  obtain ⟨x, l, r, f, n, s, rfl, hL, W, k1, k2⟩ := h
  refine ⟨_, (pss_cons (ps_if (pt_not (pt_tru (pe_callA G_is_repairable (Room.mono hr (by decide)) T.n_is_repairable tk (pa_cons (pv 0) pa_nil)))) (pss_one (ps_ret pe_non)) pss_nil)
      (pss_one (ps_ret (pe_callB (cr_sum rfl) rfl T.b_sum (by decide +kernel) (pa_cons (pe_lc (own := [("node", 1)]) (g := (gName 1)) (tt := tYes) rfl sc_settled_debt.nd (pi_list (pe_callA G_due_nodes (Room.mono hr (by decide)) T.n_due_nodes tk (pa_cons (pv 0) pa_nil))) (blkOk_by (own := [("node", 1)]) (N := ["links", "node"]) (sc := defScope s_settled_debt) (by decide +kernel)) (fun _ _ _ _ _ => (pg_name (i := 1) sc_settled_debt.nd rfl (Or.inl rfl))) (fun _ _ _ _ _ => pts_nil) (fun _ _ _ _ _ => (pe_callA G__share (Room.mono hr (by decide)) T.n__share takes0 (pa_cons (pv 0) (pa_cons (pv 1) pa_nil))))) pa_nil))))), ?_⟩
  show (_ : Ends → L2.St → Hp → Prop) _ [some _, none] _
  try dsimp only [L2H.cxH, cxOf]
  have n1 := WF.n1 W
  walk_at "w"
  refine ⟨x, l, r, f, n, s, rfl, hL, W, fun H1 q1 => ?_⟩
  by_cases c : lostL n s = []
  · rw [show decide (lostL n s = []) = true by simpa using c]
    walk_at "w"
    refine ⟨x, l, r, f, n, s, rfl, hL.kp0 q1, W, fun p H2 hp q2 hp2 => ?_⟩
    have hdl := dueL_len n s
    have hL2 := (hL.kp0 q1).kp0 q2
    walk_at "w"
    refine w_lcM (f := V.int) (f' := V.int) (fun v => some (shareF s v)) hp2 (by rw [sizeLine_eq]; omega) ?_ ?_
    · intro D i u acc H' hD hu hk hA hlen
      have hv := dueL_in u (List.mem_of_getElem? hu)
      walk_at "w"
      refine ⟨rfl, ?_⟩
      walk_at "w"
      refine ⟨x, l, r, f, n, u, s, rfl, hL2.kp0 hk, W, hv.1, hv.2.1, ?_⟩
      exact w_keep hk hA hlen hD rfl
    · intro D H' hD hk hA
      rw [fm_some] at hA
      walk_at "w"
      exact k1 c H' ((q1.trans0 q2).trans0 hk)
  · rw [show decide (lostL n s = []) = false by simpa using c]
    walk_at "w"
    exact k2 c H1 q1
def sp_debt_of (a : AD) : Sp := fun vs H Q E => ∃ (x l r f : Addr) (n : Int) (s : List Int × List Int × List Bool), vs = [.ref x] ∧ LkS a H x l r f n s ∧ WFs n s ∧ (∀ g rest, lostL n s = g :: rest → xNotRepairable a (.int g) E H) ∧ (lostL n s = [] → ∀ H', Kp [] H H' → Q (.int (debtF n s)) H')
theorem sc_debt_of : FnScope ["links"] ["links"] (defScope s_debt_of) := ⟨rfl, rfl, rfl, by decide +kernel, rfl, by decide +kernel, by decide +kernel⟩
theorem ok_debt_of {P : Program} {w : World} {K : PySem.W.Frag} {mg : Str → Option Value} {base : Heap} {a : AD} (T : Txt P K mg a) (G_check_repairable : FnA P w K mg base 7 a.f_check_repairable ["links"] (sp_check_repairable a)) (G_settled_debt : FnA P w K mg base 8 a.f_settled_debt ["links"] (sp_settled_debt a)) : FnA P w K mg base 9 a.f_debt_of ["links"] (sp_debt_of a) := by
  obtain ⟨fd, F, b⟩ := T.F_debt_of
  refine FnA.of F sc_debt_of b (fun vs H Q E h => by first | (obtain ⟨rfl, _⟩ := h; rfl) | (obtain ⟨_, rfl, _⟩ := h; rfl) | (obtain ⟨_, _, rfl, _⟩ := h; rfl) | (obtain ⟨_, _, _, rfl, _⟩ := h; rfl) | (obtain ⟨_, _, _, _, rfl, _⟩ := h; rfl) | (obtain ⟨_, _, _, _, _, rfl, _⟩ := h; rfl) | (obtain ⟨_, _, _, _, _, _, rfl, _⟩ := h; rfl) | (obtain ⟨_, _, _, _, _, _, _, rfl, _⟩ := h; rfl) | (obtain ⟨_, _, _, _, _, _, _, _, rfl, _⟩ := h; rfl) | (obtain ⟨_, _, _, _, _, _, _, _, _, rfl, _⟩ := h; rfl) | (obtain ⟨_, _, _, _, _, _, _, _, _, _, rfl, _⟩ := h; rfl) | (obtain ⟨_, _, _, _, _, _, _, _, _, _, _, rfl, _⟩ := h; rfl) | (obtain ⟨_, _, _, _, _, _, _, _, _, _, _, _, rfl, _⟩ := h; rfl) | (obtain ⟨_, _, _, _, _, _, _, _, _, _, _, _, _, rfl, _⟩ := h; rfl) | (obtain ⟨_, _, _, _, _, _, _, _, _, _, _, _, _, _, rfl, _⟩ := h; rfl) | (obtain ⟨_, _, _, _, _, _, _, _, _, _, _, _, _, _, _, rfl, _⟩ := h; rfl) | (obtain ⟨_, _, _, _, _, _, _, _, _, _, _, _, _, _, _, _, rfl, _⟩ := h; rfl) | (obtain ⟨_, _, _, _, _, _, _, _, _, _, _, _, _, _, _, _, _, rfl, _⟩ := h; rfl) | (obtain ⟨_, _, _, _, _, _, _, _, _, _, _, _, _, _, _, _, _, _, rfl, _⟩ := h; rfl) | (obtain ⟨_, _, _, _, _, _, _, _, _, _, _, _, _, _, _, _, _, _, _, rfl, _⟩ := h; rfl) | (obtain ⟨_, _, _, _, _, _, _, _, _, _, _, _, _, _, _, _, _, _, _, _, rfl, _⟩ := h; rfl) | (obtain ⟨_, _, _, _, _, _, _, _, _, _, _, _, _, _, _, _, _, _, _, _, _, rfl, _⟩ := h; rfl) | (obtain ⟨_, _, _, _, _, _, _, _, _, _, _, _, _, _, _, _, _, _, _, _, _, _, rfl, _⟩ := h; rfl) | (obtain ⟨_, _, _, _, _, _, _, _, _, _, _, _, _, _, _, _, _, _, _, _, _, _, _, rfl, _⟩ := h; rfl)) (fun cdv A outer s H vs Q E hr tk pz h => ?_)
  have hu := hr.units
  have hrH := L2H.roomH_of hr
  obtain ⟨x, l, r, f, n, s, rfl, hL, W, hb, k⟩ := h
  refine ⟨_, (pss_cons (ps_expr (pe_callA G_check_repairable (Room.mono hr (by decide)) T.n_check_repairable tk (pa_cons (pv 0) pa_nil)))
      (pss_one (ps_ret (pe_callA G_settled_debt (Room.mono hr (by decide)) T.n_settled_debt tk (pa_cons (pv 0) pa_nil))))), ?_⟩
  show (_ : Ends → L2.St → Hp → Prop) _ [some _] _
  try dsimp only [L2H.cxH, cxOf]
  walk_at "w"
  refine ⟨x, l, r, f, n, s, rfl, hL, W, hb, fun c H1 q1 => ?_⟩
  walk_at "w"
  exact ⟨x, l, r, f, n, s, rfl, hL.kp0 q1, W, fun _ H2 q2 => k c H2 (q1.trans0 q2), fun z => absurd c z⟩
/-- can the standing be finished by relinks alone -/
def finB (n : Int) (s : List Int × List Int × List Bool) : Bool := decide (lostL n s = []) && ((dueL n s).map fun v => s.2.2.getD v.toNat default).all id
def sp_can_finish (a : AD) : Sp := fun vs H Q E => ∃ (x l r f : Addr) (n : Int) (s : List Int × List Int × List Bool), vs = [.ref x] ∧ LkS a H x l r f n s ∧ WFs n s ∧ ∀ H', Kp [] H H' → Q (.bl (finB n s)) H'
/-! ### draws -/
/-- the box at b, its numbers at q -/
def Box (H : Hp) (b q : Addr) : Prop := ∃ (ns : List Int) (i big st c : Int), H b = some (.lst [.ref q, .int i, .int big, .int st, .int c]) ∧ H q = some (.lst (ns.map V.int)) ∧ q ≠ b ∧ 0 ≤ i ∧ 0 ≤ big
theorem Box.kp {H H' : Hp} {b q : Addr} (B : Box H b q) (k : Kp [] H H') : Box H' b q := by
  obtain ⟨ns, i, big, st, c, h1, h2, h3⟩ := B
  exact ⟨ns, i, big, st, c, k.at0 h1, k.at0 h2, h3⟩
theorem Box.new {H : Hp} {b q p : Addr} {o : HO} (B : Box H b q) (h : H p = none) : Box (upd H p o) b q := B.kp (Kp.refl.new h)
theorem Box.mut {H : Hp} {b q p : Addr} {o : HO} (B : Box H b q) (n1 : p ≠ b) (n2 : p ≠ q) : Box (upd H p o) b q := by
  obtain ⟨ns, i, big, st, c, h1, h2, h3⟩ := B
  exact ⟨ns, i, big, st, c, upd_get (Ne.symm n1) h1, upd_get (Ne.symm n2) h2, h3⟩
theorem Box.b {H : Hp} {b q p : Addr} (B : Box H b q) (h : H p = none) : p ≠ b := by
  obtain ⟨ns, i, big, st, c, h1, h2, h3⟩ := B
  exact Ne.symm (ne_of_none h1 h)
theorem Box.q {H : Hp} {b q p : Addr} (B : Box H b q) (h : H p = none) : p ≠ q := by
  obtain ⟨ns, i, big, st, c, h1, h2, h3⟩ := B
  exact Ne.symm (ne_of_none h2 h)
theorem kp_free {H H' : Hp} {b q r : Addr} (B : Box H' b q) (k : Kp [b] H H') (h : H' r = none) : H r = none := k.freeM h (by
  obtain ⟨ns, i, big, st, c, h1, h2, h3⟩ := B
  intro x hx
  rw [List.mem_singleton] at hx
  exact ⟨_, by rw [hx]; exact h1⟩)

def sp__law_bag (K : PySem.W.Frag) (a : AD) : Sp := fun vs H Q _ => ∃ (p : Addr) (ns : List Int), vs = [.ref p] ∧ SqL K H p (ns.map V.int) ∧ ∀ (b q : Addr) (H' : Hp), H b = none → Box H' b q → Kp [] H H' → Q (.ref b) H'
theorem sc__law_bag : FnScope ["_law_script"] ["_law_script"] (defScope s__law_bag) := ⟨rfl, rfl, rfl, by decide +kernel, rfl, by decide +kernel, by decide +kernel⟩
theorem ok__law_bag {P : Program} {w : World} {K : PySem.W.Frag} {mg : Str → Option Value} {base : Heap} {a : AD} (T : Txt P K mg a) : FnA P w K mg base 2 a.f__law_bag ["_law_script"] (sp__law_bag K a) := by
  obtain ⟨fd, F, b⟩ := T.F__law_bag
  refine FnA.of F sc__law_bag b (fun vs H Q E h => by first | (obtain ⟨rfl, _⟩ := h; rfl) | (obtain ⟨_, rfl, _⟩ := h; rfl) | (obtain ⟨_, _, rfl, _⟩ := h; rfl) | (obtain ⟨_, _, _, rfl, _⟩ := h; rfl) | (obtain ⟨_, _, _, _, rfl, _⟩ := h; rfl) | (obtain ⟨_, _, _, _, _, rfl, _⟩ := h; rfl) | (obtain ⟨_, _, _, _, _, _, rfl, _⟩ := h; rfl) | (obtain ⟨_, _, _, _, _, _, _, rfl, _⟩ := h; rfl) | (obtain ⟨_, _, _, _, _, _, _, _, rfl, _⟩ := h; rfl) | (obtain ⟨_, _, _, _, _, _, _, _, _, rfl, _⟩ := h; rfl) | (obtain ⟨_, _, _, _, _, _, _, _, _, _, rfl, _⟩ := h; rfl) | (obtain ⟨_, _, _, _, _, _, _, _, _, _, _, rfl, _⟩ := h; rfl) | (obtain ⟨_, _, _, _, _, _, _, _, _, _, _, _, rfl, _⟩ := h; rfl) | (obtain ⟨_, _, _, _, _, _, _, _, _, _, _, _, _, rfl, _⟩ := h; rfl) | (obtain ⟨_, _, _, _, _, _, _, _, _, _, _, _, _, _, rfl, _⟩ := h; rfl) | (obtain ⟨_, _, _, _, _, _, _, _, _, _, _, _, _, _, _, rfl, _⟩ := h; rfl) | (obtain ⟨_, _, _, _, _, _, _, _, _, _, _, _, _, _, _, _, rfl, _⟩ := h; rfl) | (obtain ⟨_, _, _, _, _, _, _, _, _, _, _, _, _, _, _, _, _, rfl, _⟩ := h; rfl) | (obtain ⟨_, _, _, _, _, _, _, _, _, _, _, _, _, _, _, _, _, _, rfl, _⟩ := h; rfl) | (obtain ⟨_, _, _, _, _, _, _, _, _, _, _, _, _, _, _, _, _, _, _, rfl, _⟩ := h; rfl) | (obtain ⟨_, _, _, _, _, _, _, _, _, _, _, _, _, _, _, _, _, _, _, _, rfl, _⟩ := h; rfl) | (obtain ⟨_, _, _, _, _, _, _, _, _, _, _, _, _, _, _, _, _, _, _, _, _, rfl, _⟩ := h; rfl) | (obtain ⟨_, _, _, _, _, _, _, _, _, _, _, _, _, _, _, _, _, _, _, _, _, _, rfl, _⟩ := h; rfl) | (obtain ⟨_, _, _, _, _, _, _, _, _, _, _, _, _, _, _, _, _, _, _, _, _, _, _, rfl, _⟩ := h; rfl)) (fun cdv A outer s H vs Q E hr tk pz h => ?_)
  have hu := hr.units
  have hrH := L2H.roomH_of hr
  obtain ⟨p, ns, rfl, hp, k⟩ := h
  refine ⟨_, (pss_one (ps_ret (pe_lst (pa_cons (pe_slice sl_any (pv 0) po_none (po_some pe_int)) (pa_cons pe_int (pa_cons pe_int (pa_cons pe_int (pa_cons pe_int pa_nil)))))))), ?_⟩
  show (_ : Ends → L2.St → Hp → Prop) _ [some _] _
  try dsimp only [L2H.cxH, cxOf]
  walk_at "w"
  intro l hl
  walk_at "w"
  intro b hb
  refine k b l _ (upd_nil hb) ⟨cut ns none (some 63), 0, 0, 1, 0, upd_same, upd_get (Ne.symm (upd_nel hb)) upd_same, Ne.symm (upd_nel hb), by omega, by omega⟩ ((Kp.refl.new hl).new hb)
def sp__law_draw (a : AD) : Sp := fun vs H Q _ => ∃ (b q : Addr) (m : Int), vs = [.ref b, .int m] ∧ Box H b q ∧ 0 < m ∧ m < 1073741824 ∧ ∀ (r : Int) (H' : Hp), 0 ≤ r → r < m → Box H' b q → Kp [b] H H' → Q (.int r) H'
theorem sc__law_draw : FnScope ["_law_bag_here", "_law_many", "_law_cell", "_law_digit", "_law_twice"] ["_law_bag_here", "_law_many"] (defScope s__law_draw) := ⟨rfl, rfl, rfl, by decide +kernel, rfl, by decide +kernel, by decide +kernel⟩
theorem ok__law_draw {P : Program} {w : World} {K : PySem.W.Frag} {mg : Str → Option Value} {base : Heap} {a : AD} (T : Txt P K mg a) : FnA P w K mg base 2 a.f__law_draw ["_law_bag_here", "_law_many"] (sp__law_draw a) := by
  obtain ⟨fd, F, b⟩ := T.F__law_draw
  refine FnA.of F sc__law_draw b (fun vs H Q E h => by first | (obtain ⟨rfl, _⟩ := h; rfl) | (obtain ⟨_, rfl, _⟩ := h; rfl) | (obtain ⟨_, _, rfl, _⟩ := h; rfl) | (obtain ⟨_, _, _, rfl, _⟩ := h; rfl) | (obtain ⟨_, _, _, _, rfl, _⟩ := h; rfl) | (obtain ⟨_, _, _, _, _, rfl, _⟩ := h; rfl) | (obtain ⟨_, _, _, _, _, _, rfl, _⟩ := h; rfl) | (obtain ⟨_, _, _, _, _, _, _, rfl, _⟩ := h; rfl) | (obtain ⟨_, _, _, _, _, _, _, _, rfl, _⟩ := h; rfl) | (obtain ⟨_, _, _, _, _, _, _, _, _, rfl, _⟩ := h; rfl) | (obtain ⟨_, _, _, _, _, _, _, _, _, _, rfl, _⟩ := h; rfl) | (obtain ⟨_, _, _, _, _, _, _, _, _, _, _, rfl, _⟩ := h; rfl) | (obtain ⟨_, _, _, _, _, _, _, _, _, _, _, _, rfl, _⟩ := h; rfl) | (obtain ⟨_, _, _, _, _, _, _, _, _, _, _, _, _, rfl, _⟩ := h; rfl) | (obtain ⟨_, _, _, _, _, _, _, _, _, _, _, _, _, _, rfl, _⟩ := h; rfl) | (obtain ⟨_, _, _, _, _, _, _, _, _, _, _, _, _, _, _, rfl, _⟩ := h; rfl) | (obtain ⟨_, _, _, _, _, _, _, _, _, _, _, _, _, _, _, _, rfl, _⟩ := h; rfl) | (obtain ⟨_, _, _, _, _, _, _, _, _, _, _, _, _, _, _, _, _, rfl, _⟩ := h; rfl) | (obtain ⟨_, _, _, _, _, _, _, _, _, _, _, _, _, _, _, _, _, _, rfl, _⟩ := h; rfl) | (obtain ⟨_, _, _, _, _, _, _, _, _, _, _, _, _, _, _, _, _, _, _, rfl, _⟩ := h; rfl) | (obtain ⟨_, _, _, _, _, _, _, _, _, _, _, _, _, _, _, _, _, _, _, _, rfl, _⟩ := h; rfl) | (obtain ⟨_, _, _, _, _, _, _, _, _, _, _, _, _, _, _, _, _, _, _, _, _, rfl, _⟩ := h; rfl) | (obtain ⟨_, _, _, _, _, _, _, _, _, _, _, _, _, _, _, _, _, _, _, _, _, _, rfl, _⟩ := h; rfl) | (obtain ⟨_, _, _, _, _, _, _, _, _, _, _, _, _, _, _, _, _, _, _, _, _, _, _, rfl, _⟩ := h; rfl)) (fun cdv A outer s H vs Q E hr tk pz h => ?_)
  have hu := hr.units
  have hrH := L2H.roomH_of hr
  obtain ⟨b, q, m, rfl, ⟨ns, i, big, st, c, hb, hq, hqb, hi, hbig⟩, hm0, hm1, k⟩ := h
  refine ⟨_, (pss_cons (ps_if (pt_not (pt_tru (pe_ix ix_seq (pv 0) pe_int (fun _ _ => rfl)))) (pss_one (ps_ret pe_int)) pss_nil)
      (pss_cons (ps_asg (pe_op o_add (pe_ix ix_seq (pv 0) pe_int (fun _ _ => rfl)) pe_int) (pg_sub (pv 0) pe_int set_list))
      (pss_cut (ps_if (PW.pt (pw_and (pt_cmpA op_le (pe_ix ix_seq (pv 0) pe_int (fun _ _ => rfl)) pe_int (nomark _)) (pw_and1 (pt_cmpA op_lt (pe_ix ix_seq (pv 0) pe_int (fun _ _ => rfl)) (pe_callB (b_len) rfl T.b_len (by decide +kernel) (pa_cons (pe_ix ix_seq (pv 0) pe_int (fun _ _ => rfl)) pa_nil)) (nomark _))))) (pss_cons (ps_set (i := 2) sc__law_draw.nd rfl (Or.inl rfl) (pe_ix ix_seq (pe_ix ix_seq (pv 0) pe_int (fun _ _ => rfl)) (pe_ix ix_seq (pv 0) pe_int (fun _ _ => rfl)) (fun _ _ => rfl)))
      (pss_cons (ps_asg (pe_op o_add (pe_ix ix_seq (pv 0) pe_int (fun _ _ => rfl)) pe_int) (pg_sub (pv 0) pe_int set_list))
      (pss_one (ps_if (pt_cmpA op_ge (pv 2) (pe_op op_pow pe_int pe_int) (nomark _)) (pss_one (ps_asg (pv 2) (pg_sub (pv 0) pe_int set_list))) (pss_one (ps_asg (pe_op op_mod (pe_callTy b_intA rfl T.b_int (by decide +kernel) (pa_cons (pe_op o_add (pe_op o_add (pe_op o_mul (pe_ix ix_seq (pv 0) pe_int (fun _ _ => rfl)) pe_int) (pe_op o_mul (pv 2) pe_int)) pe_int) pa_nil)) pe_int) (pg_sub (pv 0) pe_int set_list))))))) pss_nil)
      (pss_cons (ps_if (pt_cmpA op_gt (pe_ix ix_seq (pv 0) pe_int (fun _ _ => rfl)) pe_int (nomark _)) (pss_cons (ps_set (i := 3) sc__law_draw.nd rfl (Or.inl rfl) (pe_op op_mod (pe_callTy b_intA rfl T.b_int (by decide +kernel) (pa_cons (pe_ix ix_seq (pv 0) pe_int (fun _ _ => rfl)) pa_nil)) (pv 1)))
      (pss_cons (ps_asg (pe_op op_fdiv (pe_callTy b_intA rfl T.b_int (by decide +kernel) (pa_cons (pe_ix ix_seq (pv 0) pe_int (fun _ _ => rfl)) pa_nil)) (pv 1)) (pg_sub (pv 0) pe_int set_list))
      (pss_one (ps_ret (pv 3))))) pss_nil)
      (pss_cons (ps_asg (pe_op op_mod (pe_callTy b_intA rfl T.b_int (by decide +kernel) (pa_cons (pe_op o_add (pe_op o_add (pe_op o_mul (pe_ix ix_seq (pv 0) pe_int (fun _ _ => rfl)) pe_int) (pe_op o_mul (pe_ix ix_seq (pv 0) pe_int (fun _ _ => rfl)) pe_int)) pe_int) pa_nil)) pe_int) (pg_sub (pv 0) pe_int set_list))
      (pss_cons (ps_set (i := 4) sc__law_draw.nd rfl (Or.inl rfl) (pe_op op_mod (pe_callTy b_intA rfl T.b_int (by decide +kernel) (pa_cons (pe_op o_add (pe_op o_mul (pe_op op_fdiv (pe_ix ix_seq (pv 0) pe_int (fun _ _ => rfl)) pe_int) pe_int) (pe_ix ix_seq (pv 0) pe_int (fun _ _ => rfl))) pa_nil)) pe_int))
      (pss_one (ps_ret (pe_op op_mod (pe_callTy b_intA rfl T.b_int (by decide +kernel) (pa_cons (pe_op op_fdiv (pv 4) pe_int) pa_nil)) (pv 1)))))))))), ?_⟩
  show (_ : Ends → L2.St → Hp → Prop) _ [some _, some _, none, none, none] _
  try dsimp only [L2H.cxH, cxOf]
  walk_at "w"
  cases ns with
  | nil =>
    walk_at "w"
    exact k 0 H (by omega) (by omega) ⟨[], i, big, st, c, hb, hq, hqb, hi, hbig⟩ Kp.refl
  | cons n0 ns0 =>
    walk_at "w"
    generalize n0 :: ns0 = ns at hq
    refine s_cut (fun σ' H' => ∃ x i big st c, σ' = [some (.ref b), some (.int m), x, none, none] ∧ H' b = some (.lst [.ref q, .int i, .int big, .int st, .int c]) ∧ H' q = some (.lst (ns.map V.int)) ∧ Kp [b] H H' ∧ 0 ≤ i ∧ 0 ≤ big) ?_ ?_
    · skip
      walk_at "w"
      refine w_ite (fun c1 => ?_) (fun c1 => ?_)
      · walk_at "w"
        refine w_ite (fun c2 => ?_) (fun c2 => ?_)
        · walk_at "w"
          refine w_ite (fun c3 => ?_) (fun c3 => ?_)
          · walk_at "w"
            exact ⟨_, i + 1, ns.getD i.toNat default, st, c + 1, rfl, upd_same, upd_get hqb (upd_get hqb (upd_get hqb hq)), ((Kp.refl.mut List.mem_cons_self).mut List.mem_cons_self).mut List.mem_cons_self, by omega, Int.le_trans (by decide) c3⟩
          · walk_at "w"
            exact ⟨_, i + 1, big, _, c + 1, rfl, upd_same, upd_get hqb (upd_get hqb (upd_get hqb hq)), ((Kp.refl.mut List.mem_cons_self).mut List.mem_cons_self).mut List.mem_cons_self, by omega, hbig⟩
        · walk_at "w"
          exact ⟨_, _, _, _, _, rfl, upd_same, upd_get hqb hq, Kp.refl.mut List.mem_cons_self, hi, hbig⟩
      · walk_at "w"
        exact ⟨_, _, _, _, _, rfl, upd_same, upd_get hqb hq, Kp.refl.mut List.mem_cons_self, hi, hbig⟩
    · rintro σ' H' ⟨x, i, big, st, c, rfl, hb', hq', hk, hi, hbig⟩
      walk_at "w"
      refine w_ite (fun c1 => ?_) (fun c1 => ?_)
      · walk_at "w"
        exact k _ _ (Int.emod_nonneg _ (by omega)) (Int.emod_lt_of_pos _ hm0) ⟨ns, i, _, st, c, upd_same, upd_get hqb hq', hqb, hi, Int.ediv_nonneg hbig (by omega)⟩ (hk.mut List.mem_cons_self)
      · walk_at "w"
        exact k _ _ (Int.emod_nonneg _ (by omega)) (Int.emod_lt_of_pos _ hm0) ⟨ns, i, big, _, c, upd_same, upd_get hqb hq', hqb, hi, hbig⟩ (hk.mut List.mem_cons_self)
theorem Box.kpm {ms : List Addr} {H H' : Hp} {b q : Addr} (B : Box H b q) (k : Kp ms H H') (n1 : b ∉ ms) (n2 : q ∉ ms) : Box H' b q := by
  obtain ⟨ns, i, big, st, c, h1, h2, h3⟩ := B
  exact ⟨ns, i, big, st, c, k.at h1 n1, k.at h2 n2, h3⟩
theorem Box.live {H : Hp} {b q : Addr} (B : Box H b q) : ∀ y ∈ [b, q], ∃ o, H y = some o := by
  obtain ⟨ns, i, big, st, c, h1, h2, h3⟩ := B
  intro y hy
  simp only [List.mem_cons, List.mem_nil_iff, or_false] at hy
  rcases hy with rfl | rfl
  · exact ⟨_, h1⟩
  · exact ⟨_, h2⟩
def sp__law_size (a : AD) : Sp := fun vs H Q _ => ∃ (b q : Addr), vs = [.ref b] ∧ Box H b q ∧ ∀ (r : Int) (H' : Hp), 0 ≤ r → r ≤ 60 → Box H' b q → Kp [b] H H' → Q (.int r) H'
theorem sc__law_size : FnScope ["_law_bag_here", "_law_size_here"] ["_law_bag_here"] (defScope s__law_size) := ⟨rfl, rfl, rfl, by decide +kernel, rfl, by decide +kernel, by decide +kernel⟩
theorem ok__law_size {P : Program} {w : World} {K : PySem.W.Frag} {mg : Str → Option Value} {base : Heap} {a : AD} (T : Txt P K mg a) (G__law_draw : FnA P w K mg base 2 a.f__law_draw ["_law_bag_here", "_law_many"] (sp__law_draw a)) : FnA P w K mg base 3 a.f__law_size ["_law_bag_here"] (sp__law_size a) := by
  obtain ⟨fd, F, b⟩ := T.F__law_size
  refine FnA.of F sc__law_size b (fun vs H Q E h => by first | (obtain ⟨rfl, _⟩ := h; rfl) | (obtain ⟨_, rfl, _⟩ := h; rfl) | (obtain ⟨_, _, rfl, _⟩ := h; rfl) | (obtain ⟨_, _, _, rfl, _⟩ := h; rfl) | (obtain ⟨_, _, _, _, rfl, _⟩ := h; rfl) | (obtain ⟨_, _, _, _, _, rfl, _⟩ := h; rfl) | (obtain ⟨_, _, _, _, _, _, rfl, _⟩ := h; rfl) | (obtain ⟨_, _, _, _, _, _, _, rfl, _⟩ := h; rfl) | (obtain ⟨_, _, _, _, _, _, _, _, rfl, _⟩ := h; rfl) | (obtain ⟨_, _, _, _, _, _, _, _, _, rfl, _⟩ := h; rfl) | (obtain ⟨_, _, _, _, _, _, _, _, _, _, rfl, _⟩ := h; rfl) | (obtain ⟨_, _, _, _, _, _, _, _, _, _, _, rfl, _⟩ := h; rfl) | (obtain ⟨_, _, _, _, _, _, _, _, _, _, _, _, rfl, _⟩ := h; rfl) | (obtain ⟨_, _, _, _, _, _, _, _, _, _, _, _, _, rfl, _⟩ := h; rfl) | (obtain ⟨_, _, _, _, _, _, _, _, _, _, _, _, _, _, rfl, _⟩ := h; rfl) | (obtain ⟨_, _, _, _, _, _, _, _, _, _, _, _, _, _, _, rfl, _⟩ := h; rfl) | (obtain ⟨_, _, _, _, _, _, _, _, _, _, _, _, _, _, _, _, rfl, _⟩ := h; rfl) | (obtain ⟨_, _, _, _, _, _, _, _, _, _, _, _, _, _, _, _, _, rfl, _⟩ := h; rfl) | (obtain ⟨_, _, _, _, _, _, _, _, _, _, _, _, _, _, _, _, _, _, rfl, _⟩ := h; rfl) | (obtain ⟨_, _, _, _, _, _, _, _, _, _, _, _, _, _, _, _, _, _, _, rfl, _⟩ := h; rfl) | (obtain ⟨_, _, _, _, _, _, _, _, _, _, _, _, _, _, _, _, _, _, _, _, rfl, _⟩ := h; rfl) | (obtain ⟨_, _, _, _, _, _, _, _, _, _, _, _, _, _, _, _, _, _, _, _, _, rfl, _⟩ := h; rfl) | (obtain ⟨_, _, _, _, _, _, _, _, _, _, _, _, _, _, _, _, _, _, _, _, _, _, rfl, _⟩ := h; rfl) | (obtain ⟨_, _, _, _, _, _, _, _, _, _, _, _, _, _, _, _, _, _, _, _, _, _, _, rfl, _⟩ := h; rfl)) (fun cdv A outer s H vs Q E hr tk pz h => ?_)
  have hu := hr.units
  have hrH := L2H.roomH_of hr
  obtain ⟨b, q, rfl, hB, k⟩ := h
  refine ⟨_, (pss_cons (ps_set (i := 1) sc__law_size.nd rfl (Or.inl rfl) (pe_ix ix_seq (pe_lst (pa_cons pe_int (pa_cons pe_int (pa_cons pe_int (pa_cons pe_int (pa_cons pe_int (pa_cons pe_int (pa_cons pe_int (pa_cons pe_int (pa_cons pe_int (pa_cons pe_int (pa_cons pe_int (pa_cons pe_int pa_nil))))))))))))) (pe_callA G__law_draw (Room.mono hr (by decide)) T.n__law_draw tk (pa_cons (pv 0) (pa_cons pe_int pa_nil))) (fun _ _ => rfl)))
      (pss_cons (ps_if (pt_cmpA (o_eq hu) (pv 1) pe_int (nomark _)) (pss_one (ps_set (i := 1) sc__law_size.nd rfl (Or.inl rfl) (pe_op o_add pe_int (pe_callA G__law_draw (Room.mono hr (by decide)) T.n__law_draw tk (pa_cons (pv 0) (pa_cons pe_int pa_nil)))))) pss_nil)
      (pss_one (ps_ret (pv 1))))), ?_⟩
  show (_ : Ends → L2.St → Hp → Prop) _ [some _, none] _
  try dsimp only [L2H.cxH, cxOf]
  walk_at "w"
  intro t ht
  have kt := Kp.refl.new (ms := [b]) (o := .lst (([2, 3, 4, 5, 6, 7, 8, 0, 1, 3, 4, 9] : List Int).map V.int)) ht
  have ht1 : upd H t (.lst (([2, 3, 4, 5, 6, 7, 8, 0, 1, 3, 4, 9] : List Int).map V.int)) t = some (.lst (([2, 3, 4, 5, 6, 7, 8, 0, 1, 3, 4, 9] : List Int).map V.int)) := upd_same
  have B0 := hB.new (o := .lst (([2, 3, 4, 5, 6, 7, 8, 0, 1, 3, 4, 9] : List Int).map V.int)) ht
  have tb := hB.b ht
  show (_ : Prop)
  have e : (HO.lst [.int 2, .int 3, .int 4, .int 5, .int 6, .int 7, .int 8, .int 0, .int 1, .int 3, .int 4, .int 9]) = .lst (([2, 3, 4, 5, 6, 7, 8, 0, 1, 3, 4, 9] : List Int).map V.int) := rfl
  rw [e]
  generalize upd H t (.lst (([2, 3, 4, 5, 6, 7, 8, 0, 1, 3, 4, 9] : List Int).map V.int)) = H0 at kt ht1 B0 ⊢
  walk_at "w"
  refine ⟨b, q, _, rfl, B0, by omega, by omega, fun x H1 x0 x1 B1 k1 => ?_⟩
  have ht2 := k1 t _ ht1 (by simpa using tb)
  have hx : ∀ y ∈ ([2, 3, 4, 5, 6, 7, 8, 0, 1, 3, 4, 9] : List Int), 0 ≤ y ∧ y ≤ 9 := by decide
  have hg : 0 ≤ ([2, 3, 4, 5, 6, 7, 8, 0, 1, 3, 4, 9] : List Int).getD x.toNat default ∧ ([2, 3, 4, 5, 6, 7, 8, 0, 1, 3, 4, 9] : List Int).getD x.toNat default ≤ 9 := by
    refine hx _ ?_
    rw [List.getD_eq_getElem?_getD, List.getElem?_eq_getElem (by simp; omega)]
    exact List.getElem_mem _
  walk_at "w"
  generalize ([2, 3, 4, 5, 6, 7, 8, 0, 1, 3, 4, 9] : List Int).getD x.toNat default = y at hg ⊢
  refine w_ite (fun c => ?_) (fun c => ?_)
  · walk_at "w"
    refine ⟨b, q, _, rfl, B1, by omega, by omega, fun z H2 z0 z1 B2 k2 => ?_⟩
    walk_at "w"
    exact k _ _ (by omega) (by omega) B2 ((kt.trans k1).trans k2)
  · walk_at "w"
    exact k _ _ (by omega) (by omega) B1 (kt.trans k1)

/-! ### the law's standing -/
abbrev St3 := List Int × List Int × List Bool
def Bk (H : Hp) (w l r f : Addr) (n : Int) (s : St3) : Prop := Wd H w l r f n s.2.1 (s.1 ++ [n + 2]) s.2.2
theorem Bk.kp0 {H H' : Hp} {w l r f : Addr} {n : Int} {s : St3} (h : Bk H w l r f n s) (k : Kp [] H H') : Bk H' w l r f n s := Wd.kp0 h k
theorem set_app {us : List Int} {x u : Int} {i : Nat} (h : i < us.length) : (us ++ [x]).set i u = us.set i u ++ [x] := List.set_append_left _ _ h
def bkSp (b q : Addr) (n : Int) (H : Hp) (Q : VK) : Prop := ∀ (w l r f : Addr) (s : St3) (H' : Hp), H w = none → H l = none → H r = none → H f = none → Bk H' w l r f n s → WFs n s → Box H' b q → Kp [b] H H' → Q (.ref w) H'
def sp__law_standing (a : AD) : Sp := fun vs H Q _ => ∃ (b q : Addr) (n lo : Int), vs = [.ref b, .int n, .int lo] ∧ Box H b q ∧ 0 ≤ n ∧ n ≤ 60 ∧ bkSp b q n H Q
/-- the standing while it is drawn -/
structure Drw (n : Int) (b q l r f : Addr) (H0 : Hp) (s : St3) (H : Hp) : Prop where
  k : Kp [b] H0 H
  B : Box H b q
  W : WFs n s
  hl : H l = some (.lst (s.2.1.map V.int))
  hr : H r = some (.lst ((s.1 ++ [n + 2]).map V.int))
  hf : H f = some (.lst (s.2.2.map V.bl))
theorem Drw.step {n : Int} {b q l r f : Addr} {H0 H H' : Hp} {s : St3} (h : Drw n b q l r f H0 s H) (k : Kp [b] H H') (B : Box H' b q) (lb : l ≠ b) (rb : r ≠ b) (fb : f ≠ b) : Drw n b q l r f H0 s H' :=
  ⟨h.k.trans k, B, h.W, k l _ h.hl (by simpa using lb), k r _ h.hr (by simpa using rb), k f _ h.hf (by simpa using fb)⟩
theorem Drw.kp0 {n : Int} {b q l r f : Addr} {H0 H H' : Hp} {s : St3} (h : Drw n b q l r f H0 s H) (k : Kp [] H H') : Drw n b q l r f H0 s H' :=
  ⟨h.k.trans0 k, h.B.kp k, h.W, k.at0 h.hl, k.at0 h.hr, k.at0 h.hf⟩
theorem Drw.setL {n : Int} {b q l r f : Addr} {H0 H : Hp} {s : St3} (h : Drw n b q l r f H0 s H) (hl0 : H0 l = none) (lr : l ≠ r) (lf : l ≠ f) (lb : l ≠ b) (lq : l ≠ q) {i : Nat} {u : Int} (hi : (i : Int) ≤ n) (h2 : 0 ≤ u ∧ u < ((i + 1 : Nat) : Int)) : Drw n b q l r f H0 (s.1, s.2.1.set (i + 1) u, s.2.2) (upd H l (.lst ((s.2.1.set (i + 1) u).map V.int))) :=
  ⟨h.k.own hl0, h.B.mut lb lq, WF.setL h.W (by omega) h2, upd_same, upd_get (Ne.symm lr) h.hr, upd_get (Ne.symm lf) h.hf⟩
theorem Drw.setR {n : Int} {b q l r f : Addr} {H0 H : Hp} {s : St3} (h : Drw n b q l r f H0 s H) (hr0 : H0 r = none) (lr : l ≠ r) (rf : r ≠ f) (rb : r ≠ b) (rq : r ≠ q) {i : Nat} {u : Int} (hi : (i : Int) ≤ n) (h2 : (i : Int) < u ∧ u ≤ n + 1) : Drw n b q l r f H0 (s.1.set i u, s.2.1, s.2.2) (upd H r (.lst (((s.1 ++ [n + 2]).set i u).map V.int))) :=
  ⟨h.k.own hr0, h.B.mut rb rq, WF.setR h.W h2, upd_get lr h.hl, by rw [upd_same, set_app (by rw [WF.hR h.W]; omega)], upd_get (Ne.symm rf) h.hf⟩
theorem Drw.setF {n : Int} {b q l r f : Addr} {H0 H : Hp} {s : St3} (h : Drw n b q l r f H0 s H) (hf0 : H0 f = none) (lf : l ≠ f) (rf : r ≠ f) (fb : f ≠ b) (fq : f ≠ q) {i : Nat} {u : Bool} (h1 : 1 ≤ i) (h2 : (i : Int) ≤ n) : Drw n b q l r f H0 (s.1, s.2.1, s.2.2.set i u) (upd H f (.lst ((s.2.2.set i u).map V.bl))) :=
  ⟨h.k.own hf0, h.B.mut fb fq, WF.setF h.W h1 h2, upd_get lf h.hl, upd_get rf h.hr, upd_same⟩
theorem sc__law_standing : FnScope ["_law_bag_here", "_law_size_here", "_law_lossy", "_law_node", "_law_lefts", "_law_rights", "_law_outs", "_law_lean", "_law_spot", "_law_gap", "_law_kind", "_law_cut"] ["_law_bag_here", "_law_size_here", "_law_lossy"] (defScope s__law_standing) := ⟨rfl, rfl, rfl, by decide +kernel, rfl, by decide +kernel, by decide +kernel⟩
theorem ok__law_standing {P : Program} {w : World} {K : PySem.W.Frag} {mg : Str → Option Value} {base : Heap} {a : AD} (T : Txt P K mg a) (G__law_draw : FnA P w K mg base 2 a.f__law_draw ["_law_bag_here", "_law_many"] (sp__law_draw a)) : FnA P w K mg base 3 a.f__law_standing ["_law_bag_here", "_law_size_here", "_law_lossy"] (sp__law_standing a) := by
  obtain ⟨fd, F, b⟩ := T.F__law_standing
  refine FnA.of F sc__law_standing b (fun vs H Q E h => by first | (obtain ⟨rfl, _⟩ := h; rfl) | (obtain ⟨_, rfl, _⟩ := h; rfl) | (obtain ⟨_, _, rfl, _⟩ := h; rfl) | (obtain ⟨_, _, _, rfl, _⟩ := h; rfl) | (obtain ⟨_, _, _, _, rfl, _⟩ := h; rfl) | (obtain ⟨_, _, _, _, _, rfl, _⟩ := h; rfl) | (obtain ⟨_, _, _, _, _, _, rfl, _⟩ := h; rfl) | (obtain ⟨_, _, _, _, _, _, _, rfl, _⟩ := h; rfl) | (obtain ⟨_, _, _, _, _, _, _, _, rfl, _⟩ := h; rfl) | (obtain ⟨_, _, _, _, _, _, _, _, _, rfl, _⟩ := h; rfl) | (obtain ⟨_, _, _, _, _, _, _, _, _, _, rfl, _⟩ := h; rfl) | (obtain ⟨_, _, _, _, _, _, _, _, _, _, _, rfl, _⟩ := h; rfl) | (obtain ⟨_, _, _, _, _, _, _, _, _, _, _, _, rfl, _⟩ := h; rfl) | (obtain ⟨_, _, _, _, _, _, _, _, _, _, _, _, _, rfl, _⟩ := h; rfl) | (obtain ⟨_, _, _, _, _, _, _, _, _, _, _, _, _, _, rfl, _⟩ := h; rfl) | (obtain ⟨_, _, _, _, _, _, _, _, _, _, _, _, _, _, _, rfl, _⟩ := h; rfl) | (obtain ⟨_, _, _, _, _, _, _, _, _, _, _, _, _, _, _, _, rfl, _⟩ := h; rfl) | (obtain ⟨_, _, _, _, _, _, _, _, _, _, _, _, _, _, _, _, _, rfl, _⟩ := h; rfl) | (obtain ⟨_, _, _, _, _, _, _, _, _, _, _, _, _, _, _, _, _, _, rfl, _⟩ := h; rfl) | (obtain ⟨_, _, _, _, _, _, _, _, _, _, _, _, _, _, _, _, _, _, _, rfl, _⟩ := h; rfl) | (obtain ⟨_, _, _, _, _, _, _, _, _, _, _, _, _, _, _, _, _, _, _, _, rfl, _⟩ := h; rfl) | (obtain ⟨_, _, _, _, _, _, _, _, _, _, _, _, _, _, _, _, _, _, _, _, _, rfl, _⟩ := h; rfl) | (obtain ⟨_, _, _, _, _, _, _, _, _, _, _, _, _, _, _, _, _, _, _, _, _, _, rfl, _⟩ := h; rfl) | (obtain ⟨_, _, _, _, _, _, _, _, _, _, _, _, _, _, _, _, _, _, _, _, _, _, _, rfl, _⟩ := h; rfl)) (fun cdv A outer s H vs Q E hr tk pz h => ?_)
  have hu := hr.units
  have hrH := L2H.roomH_of hr
  obtain ⟨b, q, n, lo, rfl, hB, n0, n1, k⟩ := h
  refine ⟨_, (pss_cons (ps_setLc (i := 4) (own := [("_law_node", 3)]) (g := (gName 3)) (tt := tYes) rfl sc__law_standing.nd rfl rfl (sw_true rfl rfl rfl (by decide +kernel)) (pi_range1 rfl T.b_range (pa_cons (pe_op o_add (pv 1) pe_int) pa_nil)) (blkOk_by (own := [("_law_node", 3)]) (N := ["_law_bag_here", "_law_size_here", "_law_lossy", "_law_node", "_law_lefts", "_law_rights", "_law_outs", "_law_lean", "_law_spot", "_law_gap", "_law_kind", "_law_cut"]) (sc := defScope s__law_standing) (by decide +kernel)) (fun _ _ _ _ _ => (pg_name (i := 3) sc__law_standing.nd rfl (Or.inl rfl))) (fun _ _ _ _ _ => pts_nil) (fun _ _ _ _ _ => (pe_op op_sub (pv 3) pe_int)))
      (pss_cons (ps_setLc (i := 5) (own := [("_law_node", 3)]) (g := (gName 3)) (tt := tYes) rfl sc__law_standing.nd rfl rfl (sw_true rfl rfl rfl (by decide +kernel)) (pi_range1 rfl T.b_range (pa_cons (pe_op o_add (pv 1) pe_int) pa_nil)) (blkOk_by (own := [("_law_node", 3)]) (N := ["_law_bag_here", "_law_size_here", "_law_lossy", "_law_node", "_law_lefts", "_law_rights", "_law_outs", "_law_lean", "_law_spot", "_law_gap", "_law_kind", "_law_cut"]) (sc := defScope s__law_standing) (by decide +kernel)) (fun _ _ _ _ _ => (pg_name (i := 3) sc__law_standing.nd rfl (Or.inl rfl))) (fun _ _ _ _ _ => pts_nil) (fun _ _ _ _ _ => (pe_op o_add (pv 3) pe_int)))
      (pss_cons (ps_setLc (i := 6) (own := [("_law_node", 3)]) (g := (gName 3)) (tt := tYes) rfl sc__law_standing.nd rfl rfl (sw_true rfl rfl rfl (by decide +kernel)) (pi_range1 rfl T.b_range (pa_cons (pe_op o_add (pv 1) pe_int) pa_nil)) (blkOk_by (own := [("_law_node", 3)]) (N := ["_law_bag_here", "_law_size_here", "_law_lossy", "_law_node", "_law_lefts", "_law_rights", "_law_outs", "_law_lean", "_law_spot", "_law_gap", "_law_kind", "_law_cut"]) (sc := defScope s__law_standing) (by decide +kernel)) (fun _ _ _ _ _ => (pg_name (i := 3) sc__law_standing.nd rfl (Or.inl rfl))) (fun _ _ _ _ _ => pts_nil) (fun _ _ _ _ _ => pe_bl))
      (pss_cons (ps_set (i := 7) sc__law_standing.nd rfl (Or.inl rfl) (pe_callA G__law_draw (Room.mono hr (by decide)) T.n__law_draw tk (pa_cons (pv 0) (pa_cons pe_int pa_nil))))
      (pss_cons (ps_set (i := 8) sc__law_standing.nd rfl (Or.inl rfl) pe_int)
      (pss_cut (ps_if (PW.pt (pw_and (pt_cmpA (o_eq hu) (pv 2) pe_int (nomark _)) (pw_and1 (pt_cmpA op_gt (pv 1) pe_int (nomark _))))) (pss_one (ps_set (i := 8) sc__law_standing.nd rfl (Or.inl rfl) (pe_op o_add pe_int (pe_callA G__law_draw (Room.mono hr (by decide)) T.n__law_draw tk (pa_cons (pv 0) (pa_cons (pe_op op_sub (pv 1) pe_int) pa_nil)))))) pss_nil)
      (pss_cons (ps_for pz rfl (pi_range1 rfl T.b_range (pa_cons (pe_op o_add (pv 1) pe_int) pa_nil)) (pg_name (i := 9) sc__law_standing.nd rfl (Or.inl rfl))
      (pss_cut (ps_set (i := 10) sc__law_standing.nd rfl (Or.inl rfl) (pe_callA G__law_draw (Room.mono hr (by decide)) T.n__law_draw tk (pa_cons (pv 0) (pa_cons (pe_ifExp (pt_cmpA (o_eq hu) (pv 2) pe_int (nomark _)) pe_int pe_int) pa_nil))))
      (pss_cut (ps_set (i := 11) sc__law_standing.nd rfl (Or.inl rfl) (pe_and (pe_cmpR (o_eq hu) (pv 9) (pv 8) (nomark _)) (pe_one (pe_cmpR op_gt (pv 8) pe_int (nomark _)))))
      (pss_cut (ps_if (PW.pt (pw_and (pt_cmpA op_gt (pv 9) pe_int (nomark _)) (pw_and1 (PW.pt (pw_or (pt_cmpA op_in_seq (pv 10) (pe_tup (pa_cons pe_int (pa_cons pe_int (pa_cons pe_int (pa_cons pe_int pa_nil))))) (by rfl)) (pw_or1 (pt_tru (pv 11)))))))) (pss_one (ps_asg (pe_callA G__law_draw (Room.mono hr (by decide)) T.n__law_draw tk (pa_cons (pv 0) (pa_cons (pv 9) pa_nil))) (pg_sub (pv 4) (pe_op o_add (pv 9) pe_int) set_list))) pss_nil)
      (pss_one (ps_if (PW.pt (pw_and (pt_cmpA op_lt (pv 9) (pv 1) (nomark _)) (pw_and1 (PW.pt (pw_or (pt_cmpA op_in_seq (pv 10) (pe_tup (pa_cons pe_int (pa_cons pe_int (pa_cons pe_int (pa_cons pe_int pa_nil))))) (by rfl)) (pw_or1 (pt_tru (pv 11)))))))) (pss_one (ps_asg (pe_op o_add (pe_op o_add (pv 9) pe_int) (pe_callA G__law_draw (Room.mono hr (by decide)) T.n__law_draw tk (pa_cons (pv 0) (pa_cons (pe_op op_sub (pv 1) (pv 9)) pa_nil)))) (pg_sub (pv 5) (pv 9) set_list))) pss_nil))))))
      (pss_cons (ps_for pz rfl (pi_range2 rfl T.b_range (pa_cons pe_int (pa_cons (pe_op o_add (pv 1) pe_int) pa_nil))) (pg_name (i := 3) sc__law_standing.nd rfl (Or.inl rfl))
      (pss_one (ps_asg (pe_and (pe_cmpR (o_ne hu) (pv 7) pe_int (nomark _)) (pe_one (pe_cmpR (o_eq hu) (pe_callA G__law_draw (Room.mono hr (by decide)) T.n__law_draw tk (pa_cons (pv 0) (pa_cons (pe_ix ix_seq (pe_lst (pa_cons pe_int (pa_cons pe_int (pa_cons pe_int (pa_cons pe_int pa_nil))))) (pv 7) (fun _ _ => rfl)) pa_nil))) pe_int (nomark _)))) (pg_sub (pv 6) (pv 3) set_list))))
      (pss_one (ps_ret (pe_lst (pa_cons (pv 1) (pa_cons (pv 4) (pa_cons (pv 5) (pa_cons (pv 6) pa_nil))))))))))))))), ?_⟩
  show (_ : Ends → L2.St → Hp → Prop) _ [some _, some _, some _, none, none, none, none, none, none, none, none, none] _
  try dsimp only [L2H.cxH, cxOf]
  walk_at "w"
  refine w_lcR1 (f' := V.int) (fun i : Nat => some ((i : Int) - 1)) (n := n + 2) (by omega) (by omega) (by rw [sizeLine_eq]; omega) ?_ ?_
  · intro D i acc H' hD hi hk hA hlen
    walk_at "w"
    refine ⟨rfl, ?_⟩
    walk_at "w"
    exact w_keep hk hA hlen hD rfl
  intro l H2 hl hk2 hL
  rw [fm_some] at hL
  have hL : H2 l = some (.lst ((l0 n).map V.int)) := hL
  walk_at "w"
  refine w_lcR1 (f' := V.int) (fun i : Nat => some ((i : Int) + 1)) (n := n + 2) (by omega) (by omega) (by rw [sizeLine_eq]; omega) ?_ ?_
  · intro D i acc H' hD hi hk hA hlen
    walk_at "w"
    refine ⟨rfl, ?_⟩
    walk_at "w"
    exact w_keep hk hA hlen hD rfl
  intro r H3 hr hk3 hR
  rw [fm_some, show (n + 2).toNat = (n + 1).toNat + 1 by omega, List.range_succ, List.map_append] at hR
  have hR : H3 r = some (.lst ((r0 n ++ [n + 2]).map V.int)) := by
    rw [hR]
    unfold r0
    rw [List.map_cons, List.map_nil, show ((n + 1).toNat : Int) + 1 = n + 2 by omega]
  walk_at "w"
  refine w_lcR1 (f' := V.bl) (fun i : Nat => some false) (n := n + 2) (by omega) (by omega) (by rw [sizeLine_eq]; omega) ?_ ?_
  · intro D i acc H' hD hi hk hA hlen
    walk_at "w"
    refine ⟨rfl, ?_⟩
    walk_at "w"
    exact w_keep hk hA hlen hD rfl
  intro f H4 hf hk4 hF
  rw [fm_rep] at hF
  have lr : l ≠ r := ne_of_none hL hr
  have lf : l ≠ f := ne_of_none (hk3.at0 hL) hf
  have rf : r ≠ f := ne_of_none hR hf
  have lb : l ≠ b := hB.b hl
  have rb : r ≠ b := (hB.kp hk2).b hr
  have fb : f ≠ b := ((hB.kp hk2).kp hk3).b hf
  have lq : l ≠ q := hB.q hl
  have rq : r ≠ q := (hB.kp hk2).q hr
  have fq : f ≠ q := ((hB.kp hk2).kp hk3).q hf
  have hl0 : H l = none := hl
  have hr0 : H r = none := hk2.free hr
  have hf0 : H f = none := hk2.free (hk3.free hf)
  have I4 : Drw n b q l r f H (s0 n) H4 := ⟨((hk2.mono (by simp)).trans0 hk3).trans0 hk4, ((hB.kp hk2).kp hk3).kp hk4, wfs0 n0 n1, hk4.at0 (hk3.at0 hL), hk4.at0 hR, hF⟩
  clear hk2 hk3 hk4 hL hR hF hl hr hf
  walk_at "w"
  refine ⟨b, q, _, rfl, I4.B, by omega, by omega, fun ln H5 ln0 ln1 B5 k5 => ?_⟩
  have I5 := I4.step k5 B5 lb rb fb
  clear I4 B5 k5
  walk_at "w"
  refine s_cut (fun σ' H' => Drw n b q l r f H (s0 n) H' ∧ ∃ sp : Int, σ' = [some (.ref b), some (.int n), some (.int lo), none, some (.ref l), some (.ref r), some (.ref f), some (.int ln), some (.int sp), none, none, none]) ?_ ?_
  · walk_at "w"
    refine w_ite (fun c => ?_) (fun c => ?_)
    · walk_at "w"
      refine w_ite (fun c2 => ?_) (fun c2 => ?_)
      · walk_at "w"
        refine ⟨b, q, _, rfl, I5.B, by omega, by omega, fun x H6 _ _ B6 k6 => ?_⟩
        walk_at "w"
        exact ⟨I5.step k6 B6 lb rb fb, _, rfl⟩
      · walk_at "w"
        exact ⟨I5, _, rfl⟩
    · walk_at "w"
      exact ⟨I5, _, rfl⟩
  rintro σ' H6 ⟨I6, sp, rfl⟩
  clear I5
  walk_at "w"
  refine w_rng1 (n := n + 1) (by omega) (by omega) (fun i σ' H' => ∃ (s : St3) (z9 z10 z11 : Option V), σ' = [some (.ref b), some (.int n), some (.int lo), none, some (.ref l), some (.ref r), some (.ref f), some (.int ln), some (.int sp), z9, z10, z11] ∧ Drw n b q l r f H s H') ⟨s0 n, _, _, _, rfl, I6⟩ ?_ ?_
  · rintro i σ' H7 hi ⟨s, z9, z10, z11, rfl, I7⟩
    walk_at "w"
    refine s_cut (fun σ' H' => Drw n b q l r f H s H' ∧ ∃ kd : Int, σ' = [some (.ref b), some (.int n), some (.int lo), none, some (.ref l), some (.ref r), some (.ref f), some (.int ln), some (.int sp), some (.int (i : Int)), some (.int kd), z11]) ?_ ?_
    · walk_at "w"
      refine w_ite (fun c => ?_) (fun c => ?_)
      · walk_at "w"
        refine ⟨b, q, _, rfl, I7.B, by omega, by omega, fun x H8 _ _ B8 k8 => ?_⟩
        walk_at "w"
        exact ⟨I7.step k8 B8 lb rb fb, _, rfl⟩
      · walk_at "w"
        refine ⟨b, q, _, rfl, I7.B, by omega, by omega, fun x H8 _ _ B8 k8 => ?_⟩
        walk_at "w"
        exact ⟨I7.step k8 B8 lb rb fb, _, rfl⟩
    rintro σ' H8 ⟨I8, kd, rfl⟩
    clear I7
    refine s_cut (fun σ' H' => H' = H8 ∧ ∃ cb : Bool, σ' = [some (.ref b), some (.int n), some (.int lo), none, some (.ref l), some (.ref r), some (.ref f), some (.int ln), some (.int sp), some (.int (i : Int)), some (.int kd), some (.bl cb)]) ?_ ?_
    · walk_at "w"
      by_cases c : (i : Int) = sp
      · rw [show decide ((i : Int) = sp) = true by simpa using c]
        walk_at "w"
        exact ⟨rfl, _, rfl⟩
      · rw [show decide ((i : Int) = sp) = false by simpa using c]
        walk_at "w"
        exact ⟨rfl, _, rfl⟩
    rintro σ' H9 ⟨e, cb, rfl⟩
    subst e
    have dL : ∀ (H' : Hp) (u : Int), Drw n b q l r f H s H' → 0 ≤ u → u < (i : Int) → ∃ s' : St3, s' = (s.1, s.2.1.set (i + 1) u, s.2.2) ∧ Drw n b q l r f H s' (upd H' l (.lst ((s.2.1.set (i + 1) u).map V.int))) := fun H' u h h1 h2 => ⟨_, rfl, h.setL hl0 lr lf lb lq (by omega) ⟨h1, by omega⟩⟩
    refine s_cut (fun σ' H' => ∃ s : St3, Drw n b q l r f H s H' ∧ σ' = [some (.ref b), some (.int n), some (.int lo), none, some (.ref l), some (.ref r), some (.ref f), some (.int ln), some (.int sp), some (.int (i : Int)), some (.int kd), some (.bl cb)]) ?_ ?_
    · walk_at "w"
      refine w_ite (fun c => ?_) (fun c => ?_)
      · walk_at "w"
        intro T hT
        refine w_inIT (us := [0, 1, 7, 8]) upd_same ?_
        have I10 := I8.kp0 (Kp.refl.new (o := .tup [.int 0, .int 1, .int 7, .int 8]) hT)
        generalize upd H9 T (.tup [.int 0, .int 1, .int 7, .int 8]) = H10 at I10 ⊢
        walk_at "w"
        refine w_ite (fun c2 => ?_) (fun c2 => ?_)
        · walk_at "w"
          refine ⟨b, q, _, rfl, I10.B, by omega, by omega, fun u H11 u0 u1 B11 k11 => ?_⟩
          have I11 := I10.step k11 B11 lb rb fb
          have hl11 := I11.hl
          have hlen := WF.hL I11.W
          obtain ⟨s', _, I12⟩ := dL H11 u I11 u0 u1
          walk_at "w"
          rw [show ((i : Int) + 1).toNat = i + 1 by omega]
          exact ⟨s', I12, rfl⟩
        · cases cb
          · walk_at "w"
            exact ⟨s, I10, rfl⟩
          · walk_at "w"
            refine ⟨b, q, _, rfl, I10.B, by omega, by omega, fun u H11 u0 u1 B11 k11 => ?_⟩
            have I11 := I10.step k11 B11 lb rb fb
            have hl11 := I11.hl
            have hlen := WF.hL I11.W
            obtain ⟨s', _, I12⟩ := dL H11 u I11 u0 u1
            walk_at "w"
            rw [show ((i : Int) + 1).toNat = i + 1 by omega]
            exact ⟨s', I12, rfl⟩
      · walk_at "w"
        exact ⟨s, I8, rfl⟩
    clear dL I8
    clear s
    rintro σ' H10 ⟨s, I10, rfl⟩
    walk_at "w"
    refine w_ite (fun c => ?_) (fun c => ?_)
    · walk_at "w"
      intro T hT
      refine w_inIT (us := [2, 3, 7, 8]) upd_same ?_
      have I11 := I10.kp0 (Kp.refl.new (o := .tup [.int 2, .int 3, .int 7, .int 8]) hT)
      generalize upd H10 T (.tup [.int 2, .int 3, .int 7, .int 8]) = H11 at I11 ⊢
      walk_at "w"
      refine w_ite (fun c2 => ?_) (fun c2 => ?_)
      · walk_at "w"
        refine ⟨b, q, _, rfl, I11.B, by omega, by omega, fun u H12 u0 u1 B12 k12 => ?_⟩
        have I12 := I11.step k12 B12 lb rb fb
        have hr12 := I12.hr
        have hlen := WF.hR I12.W
        have hla : (s.1 ++ [n + 2]).length = (n + 2).toNat := by rw [List.length_append, hlen]; simp; omega
        walk_at "w"
        rw [Int.toNat_natCast]
        exact ⟨_, _, _, _, rfl, I12.setR hr0 lr rf rb rq (by omega) ⟨by omega, by omega⟩⟩
      · cases cb
        · walk_at "w"
          exact ⟨_, _, _, _, rfl, I11⟩
        · walk_at "w"
          refine ⟨b, q, _, rfl, I11.B, by omega, by omega, fun u H12 u0 u1 B12 k12 => ?_⟩
          have I12 := I11.step k12 B12 lb rb fb
          have hr12 := I12.hr
          have hlen := WF.hR I12.W
          have hla : (s.1 ++ [n + 2]).length = (n + 2).toNat := by rw [List.length_append, hlen]; simp; omega
          walk_at "w"
          rw [Int.toNat_natCast]
          exact ⟨_, _, _, _, rfl, I12.setR hr0 lr rf rb rq (by omega) ⟨by omega, by omega⟩⟩
    · walk_at "w"
      exact ⟨_, _, _, _, rfl, I10⟩
  · rintro σ' H7 ⟨s, z9, z10, z11, rfl, I7⟩
    clear I6
    walk_at "w"
    refine w_rng2 (lo := 1) (n := n + 1) (by omega) (by omega) (by omega) (by omega) (fun i σ' H' => ∃ (s : St3) (z3 : Option V), σ' = [some (.ref b), some (.int n), some (.int lo), z3, some (.ref l), some (.ref r), some (.ref f), some (.int ln), some (.int sp), z9, z10, z11] ∧ Drw n b q l r f H s H') ⟨s, _, rfl, I7⟩ ?_ ?_
    · clear I7
      clear s
      rintro i σ' H8 hi ⟨s, z3, rfl, I8⟩
      have fin : ∀ (H' : Hp) (u : Bool), Drw n b q l r f H s H' → Drw n b q l r f H (s.1, s.2.1, s.2.2.set (1 + (i : Int)).toNat u) (upd H' f (.lst ((s.2.2.set (1 + (i : Int)).toNat u).map V.bl))) := fun H' u h => h.setF hf0 lf rf fb fq (by omega) (by omega)
      have hlen := WF.hF I8.W
      have hf8 := I8.hf
      walk_at "w"
      by_cases c : ln = 1
      · rw [show decide (ln = 1) = true by simpa using c]
        walk_at "w"
        exact ⟨_, _, rfl, fin _ _ I8⟩
      · rw [show decide (ln = 1) = false by simpa using c]
        walk_at "w"
        intro T hT
        have e : (HO.lst [.int 2, .int 1, .int 5, .int 3]) = .lst (([2, 1, 5, 3] : List Int).map V.int) := rfl
        rw [e] at *
        have I9 := I8.kp0 (Kp.refl.new (o := .lst (([2, 1, 5, 3] : List Int).map V.int)) hT)
        have hT9 : upd H8 T (.lst (([2, 1, 5, 3] : List Int).map V.int)) T = some (.lst (([2, 1, 5, 3] : List Int).map V.int)) := upd_same
        generalize upd H8 T (.lst (([2, 1, 5, 3] : List Int).map V.int)) = H9 at I9 hT9 ⊢
        have hx : ∀ y ∈ ([2, 1, 5, 3] : List Int), 1 ≤ y ∧ y ≤ 5 := by decide
        have hg : 1 ≤ ([2, 1, 5, 3] : List Int).getD ln.toNat default ∧ ([2, 1, 5, 3] : List Int).getD ln.toNat default ≤ 5 := by
          refine hx _ ?_
          rw [List.getD_eq_getElem?_getD, List.getElem?_eq_getElem (by simp; omega)]
          exact List.getElem_mem _
        walk_at "w"
        generalize ([2, 1, 5, 3] : List Int).getD ln.toNat default = y at hg ⊢
        refine ⟨b, q, _, rfl, I9.B, by omega, by omega, fun u H10 u0 u1 B10 k10 => ?_⟩
        have I10 := I9.step k10 B10 lb rb fb
        have hf10 := I10.hf
        walk_at "w"
        exact ⟨_, _, rfl, fin _ _ I10⟩
    · clear I7
      clear s
      rintro σ' H8 ⟨s, z3, rfl, I8⟩
      walk_at "w"
      intro w hw
      have wl : w ≠ l := Ne.symm (ne_of_none I8.hl hw)
      have wr : w ≠ r := Ne.symm (ne_of_none I8.hr hw)
      have wf : w ≠ f := Ne.symm (ne_of_none I8.hf hw)
      exact k w l r f s _ (kp_free I8.B I8.k hw) hl0 hr0 hf0 ⟨upd_same, upd_new hw I8.hl, upd_new hw I8.hr, upd_new hw I8.hf, wl, wr, wf, lr, lf, rf⟩ I8.W (I8.B.new hw) (I8.k.new hw)

/-! ### the law's book -/
theorem gd_app' {n : Int} {s : St3} (W : WFs n s) {x : Int} {i : Nat} (h : (i : Int) ≤ n) : (s.1 ++ [x]).getD i default = s.1.getD i default := gd_app (by rw [WF.hR W]; omega)
theorem bk_len {n : Int} {s : St3} (W : WFs n s) : (s.1 ++ [n + 2]).length = (n + 2).toNat := by
  have := WF.n0 W
  rw [List.length_append, WF.hR W]; simp; omega
def opF (s : St3) (v : Int) : Int := if s.2.2.getD v.toNat default = true then v else -v
theorem opF_ok {n : Int} {s : St3} {v : Int} (v1 : 1 ≤ v) (v2 : v ≤ n) : IsOp n (opF s v) ∧ (opF s v).natAbs = v.toNat ∧ OkAt n s (opF s v) := by
  have key : IsOp n (opF s v) ∧ (opF s v).natAbs = v.toNat ∧ s.2.2.getD v.toNat default ≠ decide (opF s v < 0) := by
    unfold opF IsOp
    by_cases c : s.2.2.getD v.toNat default = true
    · rw [if_pos c, c]
      refine ⟨by omega, by omega, ?_⟩
      rw [show decide (v < 0) = false by simp; omega]
      simp
    · rw [if_neg c]
      have c' : s.2.2.getD v.toNat default = false := by simpa using c
      rw [c']
      refine ⟨by omega, by omega, ?_⟩
      rw [show decide (-v < 0) = true by simp; omega]
      simp
  exact ⟨key.1, key.2.1, key.1, by rw [key.2.1]; exact key.2.2⟩
def sp__law_copy (a : AD) : Sp := fun vs H Q _ => ∃ (w l r f : Addr) (n : Int) (s : St3), vs = [.ref w] ∧ Bk H w l r f n s ∧ ∀ (w' l' r' f' : Addr) (H' : Hp), H w' = none → H l' = none → H r' = none → H f' = none → Bk H' w' l' r' f' n s → Kp [] H H' → Q (.ref w') H'
theorem sc__law_copy : FnScope ["_law_book"] ["_law_book"] (defScope s__law_copy) := ⟨rfl, rfl, rfl, by decide +kernel, rfl, by decide +kernel, by decide +kernel⟩
theorem ok__law_copy {P : Program} {w : World} {K : PySem.W.Frag} {mg : Str → Option Value} {base : Heap} {a : AD} (T : Txt P K mg a) : FnA P w K mg base 2 a.f__law_copy ["_law_book"] (sp__law_copy a) := by
  obtain ⟨fd, F, b⟩ := T.F__law_copy
  refine FnA.of F sc__law_copy b (fun vs H Q E h => by first | (obtain ⟨rfl, _⟩ := h; rfl) | (obtain ⟨_, rfl, _⟩ := h; rfl) | (obtain ⟨_, _, rfl, _⟩ := h; rfl) | (obtain ⟨_, _, _, rfl, _⟩ := h; rfl) | (obtain ⟨_, _, _, _, rfl, _⟩ := h; rfl) | (obtain ⟨_, _, _, _, _, rfl, _⟩ := h; rfl) | (obtain ⟨_, _, _, _, _, _, rfl, _⟩ := h; rfl) | (obtain ⟨_, _, _, _, _, _, _, rfl, _⟩ := h; rfl) | (obtain ⟨_, _, _, _, _, _, _, _, rfl, _⟩ := h; rfl) | (obtain ⟨_, _, _, _, _, _, _, _, _, rfl, _⟩ := h; rfl) | (obtain ⟨_, _, _, _, _, _, _, _, _, _, rfl, _⟩ := h; rfl) | (obtain ⟨_, _, _, _, _, _, _, _, _, _, _, rfl, _⟩ := h; rfl) | (obtain ⟨_, _, _, _, _, _, _, _, _, _, _, _, rfl, _⟩ := h; rfl) | (obtain ⟨_, _, _, _, _, _, _, _, _, _, _, _, _, rfl, _⟩ := h; rfl) | (obtain ⟨_, _, _, _, _, _, _, _, _, _, _, _, _, _, rfl, _⟩ := h; rfl) | (obtain ⟨_, _, _, _, _, _, _, _, _, _, _, _, _, _, _, rfl, _⟩ := h; rfl) | (obtain ⟨_, _, _, _, _, _, _, _, _, _, _, _, _, _, _, _, rfl, _⟩ := h; rfl) | (obtain ⟨_, _, _, _, _, _, _, _, _, _, _, _, _, _, _, _, _, rfl, _⟩ := h; rfl) | (obtain ⟨_, _, _, _, _, _, _, _, _, _, _, _, _, _, _, _, _, _, rfl, _⟩ := h; rfl) | (obtain ⟨_, _, _, _, _, _, _, _, _, _, _, _, _, _, _, _, _, _, _, rfl, _⟩ := h; rfl) | (obtain ⟨_, _, _, _, _, _, _, _, _, _, _, _, _, _, _, _, _, _, _, _, rfl, _⟩ := h; rfl) | (obtain ⟨_, _, _, _, _, _, _, _, _, _, _, _, _, _, _, _, _, _, _, _, _, rfl, _⟩ := h; rfl) | (obtain ⟨_, _, _, _, _, _, _, _, _, _, _, _, _, _, _, _, _, _, _, _, _, _, rfl, _⟩ := h; rfl) | (obtain ⟨_, _, _, _, _, _, _, _, _, _, _, _, _, _, _, _, _, _, _, _, _, _, _, rfl, _⟩ := h; rfl)) (fun cdv A outer s H vs Q E hr tk pz h => ?_)
  have hu := hr.units
  have hrH := L2H.roomH_of hr
  obtain ⟨w, l, r, f, n, s, rfl, ⟨hw, hl, hr', hf, _⟩, k⟩ := h
  refine ⟨_, (pss_one (ps_ret (pe_lst (pa_cons (pe_ix ix_seq (pv 0) pe_int (fun _ _ => rfl)) (pa_cons (pe_callTy b_list rfl T.b_list (by decide +kernel) (pa_cons (pe_ix ix_seq (pv 0) pe_int (fun _ _ => rfl)) pa_nil)) (pa_cons (pe_callTy b_list rfl T.b_list (by decide +kernel) (pa_cons (pe_ix ix_seq (pv 0) pe_int (fun _ _ => rfl)) pa_nil)) (pa_cons (pe_callTy b_list rfl T.b_list (by decide +kernel) (pa_cons (pe_ix ix_seq (pv 0) pe_int (fun _ _ => rfl)) pa_nil)) pa_nil))))))), ?_⟩
  show (_ : Ends → L2.St → Hp → Prop) _ [some _] _
  try dsimp only [L2H.cxH, cxOf]
  walk_at "w"
  intro l' hl'
  walk_at "w"
  intro r2 hr2
  walk_at "w"
  intro f2 hf2
  walk_at "w"
  intro w2 hw2
  have e1 : l' ≠ r2 := ne_of_none upd_same hr2
  have e2 : l' ≠ f2 := ne_of_none (upd_get e1 upd_same) hf2
  have e3 : r2 ≠ f2 := ne_of_none upd_same hf2
  have e4 : l' ≠ w2 := ne_of_none (upd_get e2 (upd_get e1 upd_same)) hw2
  have e5 : r2 ≠ w2 := ne_of_none (upd_get e3 upd_same) hw2
  have e6 : f2 ≠ w2 := ne_of_none upd_same hw2
  exact k w2 l' r2 f2 _ (upd_nil (upd_nil (upd_nil hw2))) hl' (upd_nil hr2) (upd_nil (upd_nil hf2)) ⟨upd_same, upd_get e4 (upd_get e2 (upd_get e1 upd_same)), upd_get e5 (upd_get e3 upd_same), upd_get e6 upd_same, Ne.symm e4, Ne.symm e5, Ne.symm e6, e1, e2, e3⟩ ((((Kp.refl.new hl').new hr2).new hf2).new hw2)
def sp__law_operation (a : AD) : Sp := fun vs H Q _ => ∃ (w l r f : Addr) (n v : Int) (s : St3), vs = [.ref w, .int v] ∧ Bk H w l r f n s ∧ WFs n s ∧ 1 ≤ v ∧ v ≤ n ∧ Q (.int (opF s v)) H
theorem sc__law_operation : FnScope ["_law_book", "_law_node"] ["_law_book", "_law_node"] (defScope s__law_operation) := ⟨rfl, rfl, rfl, by decide +kernel, rfl, by decide +kernel, by decide +kernel⟩
theorem ok__law_operation {P : Program} {w : World} {K : PySem.W.Frag} {mg : Str → Option Value} {base : Heap} {a : AD} (T : Txt P K mg a) : FnA P w K mg base 2 a.f__law_operation ["_law_book", "_law_node"] (sp__law_operation a) := by
  obtain ⟨fd, F, b⟩ := T.F__law_operation
  refine FnA.of F sc__law_operation b (fun vs H Q E h => by first | (obtain ⟨rfl, _⟩ := h; rfl) | (obtain ⟨_, rfl, _⟩ := h; rfl) | (obtain ⟨_, _, rfl, _⟩ := h; rfl) | (obtain ⟨_, _, _, rfl, _⟩ := h; rfl) | (obtain ⟨_, _, _, _, rfl, _⟩ := h; rfl) | (obtain ⟨_, _, _, _, _, rfl, _⟩ := h; rfl) | (obtain ⟨_, _, _, _, _, _, rfl, _⟩ := h; rfl) | (obtain ⟨_, _, _, _, _, _, _, rfl, _⟩ := h; rfl) | (obtain ⟨_, _, _, _, _, _, _, _, rfl, _⟩ := h; rfl) | (obtain ⟨_, _, _, _, _, _, _, _, _, rfl, _⟩ := h; rfl) | (obtain ⟨_, _, _, _, _, _, _, _, _, _, rfl, _⟩ := h; rfl) | (obtain ⟨_, _, _, _, _, _, _, _, _, _, _, rfl, _⟩ := h; rfl) | (obtain ⟨_, _, _, _, _, _, _, _, _, _, _, _, rfl, _⟩ := h; rfl) | (obtain ⟨_, _, _, _, _, _, _, _, _, _, _, _, _, rfl, _⟩ := h; rfl) | (obtain ⟨_, _, _, _, _, _, _, _, _, _, _, _, _, _, rfl, _⟩ := h; rfl) | (obtain ⟨_, _, _, _, _, _, _, _, _, _, _, _, _, _, _, rfl, _⟩ := h; rfl) | (obtain ⟨_, _, _, _, _, _, _, _, _, _, _, _, _, _, _, _, rfl, _⟩ := h; rfl) | (obtain ⟨_, _, _, _, _, _, _, _, _, _, _, _, _, _, _, _, _, rfl, _⟩ := h; rfl) | (obtain ⟨_, _, _, _, _, _, _, _, _, _, _, _, _, _, _, _, _, _, rfl, _⟩ := h; rfl) | (obtain ⟨_, _, _, _, _, _, _, _, _, _, _, _, _, _, _, _, _, _, _, rfl, _⟩ := h; rfl) | (obtain ⟨_, _, _, _, _, _, _, _, _, _, _, _, _, _, _, _, _, _, _, _, rfl, _⟩ := h; rfl) | (obtain ⟨_, _, _, _, _, _, _, _, _, _, _, _, _, _, _, _, _, _, _, _, _, rfl, _⟩ := h; rfl) | (obtain ⟨_, _, _, _, _, _, _, _, _, _, _, _, _, _, _, _, _, _, _, _, _, _, rfl, _⟩ := h; rfl) | (obtain ⟨_, _, _, _, _, _, _, _, _, _, _, _, _, _, _, _, _, _, _, _, _, _, _, rfl, _⟩ := h; rfl)) (fun cdv A outer s H vs Q E hr tk pz h => ?_)
  have hu := hr.units
  have hrH := L2H.roomH_of hr
  obtain ⟨w, l, r, f, n, v, s, rfl, ⟨hw, hl, hr', hf, _⟩, W, v1, v2, k⟩ := h
  refine ⟨_, (pss_cons (ps_if (pt_tru (pe_ix ix_seq (pe_ix ix_seq (pv 0) pe_int (fun _ _ => rfl)) (pv 1) (fun _ _ => rfl))) (pss_one (ps_ret (pv 1))) pss_nil)
      (pss_one (ps_ret (pe_un un_neg (pv 1))))), ?_⟩
  show (_ : Ends → L2.St → Hp → Prop) _ [some _, some _] _
  try dsimp only [L2H.cxH, cxOf]
  have hF := WF.hF W
  unfold opF at k
  walk_at "w"
  refine w_iteb (fun c => ?_) (fun c => ?_)
  · rw [if_pos c] at k
    walk_at "w"
    exact k
  · rw [if_neg (by rw [c]; exact Bool.false_ne_true)] at k
    walk_at "w"
    exact k
def sp__law_step (a : AD) : Sp := fun vs H Q _ => ∃ (w l r f : Addr) (n v : Int) (s : St3), vs = [.ref w, .int v] ∧ Bk H w l r f n s ∧ WFs n s ∧ 1 ≤ v ∧ v ≤ n ∧ ∀ H', Bk H' w l r f n (stS s (opF s v)) → WFs n (stS s (opF s v)) → Kp [l, r, f] H H' → Q .non H'
theorem sc__law_step : FnScope ["_law_book", "_law_node", "_law_lefts", "_law_rights", "_law_outs", "_law_low", "_law_high"] ["_law_book", "_law_node"] (defScope s__law_step) := ⟨rfl, rfl, rfl, by decide +kernel, rfl, by decide +kernel, by decide +kernel⟩
theorem ok__law_step {P : Program} {w : World} {K : PySem.W.Frag} {mg : Str → Option Value} {base : Heap} {a : AD} (T : Txt P K mg a) : FnA P w K mg base 2 a.f__law_step ["_law_book", "_law_node"] (sp__law_step a) := by
  obtain ⟨fd, F, b⟩ := T.F__law_step
  refine FnA.of F sc__law_step b (fun vs H Q E h => by first | (obtain ⟨rfl, _⟩ := h; rfl) | (obtain ⟨_, rfl, _⟩ := h; rfl) | (obtain ⟨_, _, rfl, _⟩ := h; rfl) | (obtain ⟨_, _, _, rfl, _⟩ := h; rfl) | (obtain ⟨_, _, _, _, rfl, _⟩ := h; rfl) | (obtain ⟨_, _, _, _, _, rfl, _⟩ := h; rfl) | (obtain ⟨_, _, _, _, _, _, rfl, _⟩ := h; rfl) | (obtain ⟨_, _, _, _, _, _, _, rfl, _⟩ := h; rfl) | (obtain ⟨_, _, _, _, _, _, _, _, rfl, _⟩ := h; rfl) | (obtain ⟨_, _, _, _, _, _, _, _, _, rfl, _⟩ := h; rfl) | (obtain ⟨_, _, _, _, _, _, _, _, _, _, rfl, _⟩ := h; rfl) | (obtain ⟨_, _, _, _, _, _, _, _, _, _, _, rfl, _⟩ := h; rfl) | (obtain ⟨_, _, _, _, _, _, _, _, _, _, _, _, rfl, _⟩ := h; rfl) | (obtain ⟨_, _, _, _, _, _, _, _, _, _, _, _, _, rfl, _⟩ := h; rfl) | (obtain ⟨_, _, _, _, _, _, _, _, _, _, _, _, _, _, rfl, _⟩ := h; rfl) | (obtain ⟨_, _, _, _, _, _, _, _, _, _, _, _, _, _, _, rfl, _⟩ := h; rfl) | (obtain ⟨_, _, _, _, _, _, _, _, _, _, _, _, _, _, _, _, rfl, _⟩ := h; rfl) | (obtain ⟨_, _, _, _, _, _, _, _, _, _, _, _, _, _, _, _, _, rfl, _⟩ := h; rfl) | (obtain ⟨_, _, _, _, _, _, _, _, _, _, _, _, _, _, _, _, _, _, rfl, _⟩ := h; rfl) | (obtain ⟨_, _, _, _, _, _, _, _, _, _, _, _, _, _, _, _, _, _, _, rfl, _⟩ := h; rfl) | (obtain ⟨_, _, _, _, _, _, _, _, _, _, _, _, _, _, _, _, _, _, _, _, rfl, _⟩ := h; rfl) | (obtain ⟨_, _, _, _, _, _, _, _, _, _, _, _, _, _, _, _, _, _, _, _, _, rfl, _⟩ := h; rfl) | (obtain ⟨_, _, _, _, _, _, _, _, _, _, _, _, _, _, _, _, _, _, _, _, _, _, rfl, _⟩ := h; rfl) | (obtain ⟨_, _, _, _, _, _, _, _, _, _, _, _, _, _, _, _, _, _, _, _, _, _, _, rfl, _⟩ := h; rfl)) (fun cdv A outer s H vs Q E hr tk pz h => ?_)
  have hu := hr.units
  have hrH := L2H.roomH_of hr
  obtain ⟨w, l, r, f, n, v, s, rfl, ⟨hw, hl, hr', hf, d1, d2, d3, d4, d5, d6⟩, W, v1, v2, k⟩ := h
  refine ⟨_, (pss_cons (ps_set (i := 2) sc__law_step.nd rfl (Or.inl rfl) (pe_ix ix_seq (pv 0) pe_int (fun _ _ => rfl)))
      (pss_cons (ps_set (i := 3) sc__law_step.nd rfl (Or.inl rfl) (pe_ix ix_seq (pv 0) pe_int (fun _ _ => rfl)))
      (pss_cons (ps_set (i := 4) sc__law_step.nd rfl (Or.inl rfl) (pe_ix ix_seq (pv 0) pe_int (fun _ _ => rfl)))
      (pss_cons (ps_set (i := 5) sc__law_step.nd rfl (Or.inl rfl) (pe_ix ix_seq (pv 2) (pv 1) (fun _ _ => rfl)))
      (pss_cons (ps_set (i := 6) sc__law_step.nd rfl (Or.inl rfl) (pe_ix ix_seq (pv 3) (pv 1) (fun _ _ => rfl)))
      (pss_cut (ps_if (pt_tru (pe_ix ix_seq (pv 4) (pv 1) (fun _ _ => rfl))) (pss_cons (ps_asg (pv 1) (pg_sub (pv 3) (pv 5) set_list))
      (pss_one (ps_asg (pv 1) (pg_sub (pv 2) (pv 6) set_list)))) (pss_cons (ps_asg (pv 6) (pg_sub (pv 3) (pv 5) set_list))
      (pss_one (ps_asg (pv 5) (pg_sub (pv 2) (pv 6) set_list)))))
      (pss_one (ps_asg (pe_not (pe_ix ix_seq (pv 4) (pv 1) (fun _ _ => rfl))) (pg_sub (pv 4) (pv 1) set_list))))))))), ?_⟩
  show (_ : Ends → L2.St → Hp → Prop) _ [some _, some _, none, none, none, none, none] _
  try dsimp only [L2H.cxH, cxOf]
  have hF := WF.hF W
  have hL := WF.hL W
  have hR := WF.hR W
  have hla := bk_len W
  have q := WF.at W (v := v.toNat) (by omega) (by omega)
  have hO := opF_ok (s := s) v1 v2
  have Wn : WFs n (stS s (opF s v)) := WF.ap W hO.1
  have eR := gd_app' W (x := n + 2) (i := v.toNat) (by omega)
  have ev : ((v.toNat : Nat) : Int) = v := by omega
  rw [ev] at q
  have eS : stS s (opF s v) = (s.1.set (s.2.1.getD v.toNat default).toNat (if s.2.2.getD v.toNat default = true then v else s.1.getD v.toNat default), s.2.1.set (s.1.getD v.toNat default).toNat (if s.2.2.getD v.toNat default = true then v else s.2.1.getD v.toNat default), s.2.2.set v.toNat (!s.2.2.getD v.toNat default)) := by
    unfold stS apR apL apF
    rw [hO.2.1, ev]
    unfold opF
    by_cases c : s.2.2.getD v.toNat default = true
    · rw [if_pos c, if_neg (by omega), if_neg (by omega), c, if_pos rfl, if_pos rfl]
      have : decide (v < 0) = false := by simp; omega
      rw [this]; rfl
    · have c' : s.2.2.getD v.toNat default = false := by simpa using c
      rw [if_neg c, if_pos (by omega), if_pos (by omega), c']
      have : decide (-v < 0) = true := by simp; omega
      rw [this]
      simp
  walk_at "w"
  rw [eR]
  refine s_cut (fun σ' H' => σ' = [some (.ref w), some (.int v), some (.ref l), some (.ref r), some (.ref f), some (.int (s.2.1.getD v.toNat default)), some (.int (s.1.getD v.toNat default))] ∧ H' w = H w ∧ H' l = some (.lst ((stS s (opF s v)).2.1.map V.int)) ∧ H' r = some (.lst (((stS s (opF s v)).1 ++ [n + 2]).map V.int)) ∧ H' f = some (.lst (s.2.2.map V.bl)) ∧ Kp [l, r, f] H H') ?_ ?_
  · rw [eS]
    walk_at "w"
    refine w_iteb (fun c => ?_) (fun c => ?_)
    · rw [if_pos c, if_pos c]
      walk_at "w"
      refine ⟨rfl, ?_, upd_same, ?_, ?_, (Kp.refl.mut (by simp)).mut (by simp)⟩
      · rw [upd_ne d1, upd_ne d2]
      · rw [upd_get (Ne.symm d4) upd_same, set_app (by omega)]
      · exact upd_get (Ne.symm d5) (upd_get (Ne.symm d6) hf)
    · have c' : ¬s.2.2.getD v.toNat default = true := by rw [c]; exact Bool.false_ne_true
      rw [if_neg c', if_neg c']
      walk_at "w"
      refine ⟨rfl, ?_, upd_same, ?_, ?_, (Kp.refl.mut (by simp)).mut (by simp)⟩
      · rw [upd_ne d1, upd_ne d2]
      · rw [upd_get (Ne.symm d4) upd_same, set_app (by omega)]
      · exact upd_get (Ne.symm d5) (upd_get (Ne.symm d6) hf)
  · rintro σ' H' ⟨rfl, h1, h2, h3, h4, hk⟩
    walk_at "w"
    refine k _ ⟨upd_get d3 (h1.trans hw), upd_get d5 h2, upd_get d6 h3, ?_, d1, d2, d3, d4, d5, d6⟩ Wn (hk.mut (by simp))
    rw [upd_same, eS]
/-- all joined, all in -/
def wholeS (n : Int) (s : St3) : Prop := (∀ v : Nat, 1 ≤ v → (v : Int) ≤ n → s.2.2.getD v default = false) ∧ ∀ g : Int, 0 ≤ g → g ≤ n → stateOf s.1 s.2.1 g = ("joined" : Str)
theorem state_joined {R L : List Int} {g : Int} : stateOf R L g = ("joined" : Str) ↔ R.getD g.toNat default = g + 1 ∧ L.getD (g + 1).toNat default = g := by
  unfold stateOf
  by_cases c1 : R.getD g.toNat default = g + 1
  · rw [if_pos c1]
    by_cases c2 : L.getD (g + 1).toNat default = g
    · rw [if_pos c2]; exact ⟨fun _ => ⟨c1, c2⟩, fun _ => rfl⟩
    · rw [if_neg c2]; exact ⟨fun h => absurd h (by decide), fun h => absurd h.2 c2⟩
  · rw [if_neg c1]
    by_cases c2 : L.getD (g + 1).toNat default = g
    · rw [if_pos c2]; exact ⟨fun h => absurd h (by decide), fun h => absurd h.1 c1⟩
    · rw [if_neg c2]; exact ⟨fun h => absurd h (by decide), fun h => absurd h.1 c1⟩
theorem state_lost {R L : List Int} {g : Int} : stateOf R L g = ("lost" : Str) ↔ R.getD g.toNat default ≠ g + 1 ∧ L.getD (g + 1).toNat default ≠ g := by
  unfold stateOf
  by_cases c1 : R.getD g.toNat default = g + 1
  · rw [if_pos c1]
    by_cases c2 : L.getD (g + 1).toNat default = g
    · rw [if_pos c2]; exact ⟨fun h => absurd h (by decide), fun h => absurd c1 h.1⟩
    · rw [if_neg c2]; exact ⟨fun h => absurd h (by decide), fun h => absurd c1 h.1⟩
  · rw [if_neg c1]
    by_cases c2 : L.getD (g + 1).toNat default = g
    · rw [if_pos c2]; exact ⟨fun h => absurd h (by decide), fun h => absurd c2 h.2⟩
    · rw [if_neg c2]; exact ⟨fun _ => ⟨c1, c2⟩, fun _ => rfl⟩
def sp__law_is_whole (a : AD) : Sp := fun vs H Q _ => ∃ (w l r f : Addr) (n : Int) (s : St3) (b : Bool), vs = [.ref w] ∧ Bk H w l r f n s ∧ WFs n s ∧ (b = true ↔ wholeS n s) ∧ Q (.bl b) H
theorem sc__law_is_whole : FnScope ["_law_book", "_law_gap"] ["_law_book"] (defScope s__law_is_whole) := ⟨rfl, rfl, rfl, by decide +kernel, rfl, by decide +kernel, by decide +kernel⟩
theorem ok__law_is_whole {P : Program} {w : World} {K : PySem.W.Frag} {mg : Str → Option Value} {base : Heap} {a : AD} (T : Txt P K mg a) : FnA P w K mg base 2 a.f__law_is_whole ["_law_book"] (sp__law_is_whole a) := by
  obtain ⟨fd, F, b⟩ := T.F__law_is_whole
  refine FnA.of F sc__law_is_whole b (fun vs H Q E h => by first | (obtain ⟨rfl, _⟩ := h; rfl) | (obtain ⟨_, rfl, _⟩ := h; rfl) | (obtain ⟨_, _, rfl, _⟩ := h; rfl) | (obtain ⟨_, _, _, rfl, _⟩ := h; rfl) | (obtain ⟨_, _, _, _, rfl, _⟩ := h; rfl) | (obtain ⟨_, _, _, _, _, rfl, _⟩ := h; rfl) | (obtain ⟨_, _, _, _, _, _, rfl, _⟩ := h; rfl) | (obtain ⟨_, _, _, _, _, _, _, rfl, _⟩ := h; rfl) | (obtain ⟨_, _, _, _, _, _, _, _, rfl, _⟩ := h; rfl) | (obtain ⟨_, _, _, _, _, _, _, _, _, rfl, _⟩ := h; rfl) | (obtain ⟨_, _, _, _, _, _, _, _, _, _, rfl, _⟩ := h; rfl) | (obtain ⟨_, _, _, _, _, _, _, _, _, _, _, rfl, _⟩ := h; rfl) | (obtain ⟨_, _, _, _, _, _, _, _, _, _, _, _, rfl, _⟩ := h; rfl) | (obtain ⟨_, _, _, _, _, _, _, _, _, _, _, _, _, rfl, _⟩ := h; rfl) | (obtain ⟨_, _, _, _, _, _, _, _, _, _, _, _, _, _, rfl, _⟩ := h; rfl) | (obtain ⟨_, _, _, _, _, _, _, _, _, _, _, _, _, _, _, rfl, _⟩ := h; rfl) | (obtain ⟨_, _, _, _, _, _, _, _, _, _, _, _, _, _, _, _, rfl, _⟩ := h; rfl) | (obtain ⟨_, _, _, _, _, _, _, _, _, _, _, _, _, _, _, _, _, rfl, _⟩ := h; rfl) | (obtain ⟨_, _, _, _, _, _, _, _, _, _, _, _, _, _, _, _, _, _, rfl, _⟩ := h; rfl) | (obtain ⟨_, _, _, _, _, _, _, _, _, _, _, _, _, _, _, _, _, _, _, rfl, _⟩ := h; rfl) | (obtain ⟨_, _, _, _, _, _, _, _, _, _, _, _, _, _, _, _, _, _, _, _, rfl, _⟩ := h; rfl) | (obtain ⟨_, _, _, _, _, _, _, _, _, _, _, _, _, _, _, _, _, _, _, _, _, rfl, _⟩ := h; rfl) | (obtain ⟨_, _, _, _, _, _, _, _, _, _, _, _, _, _, _, _, _, _, _, _, _, _, rfl, _⟩ := h; rfl) | (obtain ⟨_, _, _, _, _, _, _, _, _, _, _, _, _, _, _, _, _, _, _, _, _, _, _, rfl, _⟩ := h; rfl)) (fun cdv A outer s H vs Q E hr tk pz h => ?_)
  have hu := hr.units
  have hrH := L2H.roomH_of hr
  obtain ⟨w, l, r, f, n, s, b, rfl, ⟨hw, hl, hr', hf, _⟩, W, hb, k⟩ := h
  refine ⟨_, (pss_cons (ps_for pz rfl (pi_range1 rfl T.b_range (pa_cons (pe_op o_add (pe_ix ix_seq (pv 0) pe_int (fun _ _ => rfl)) pe_int) pa_nil)) (pg_name (i := 1) sc__law_is_whole.nd rfl (Or.inl rfl))
      (pss_one (ps_if (PW.pt (pw_or (pt_cmpA (o_ne hu) (pe_ix ix_seq (pe_ix ix_seq (pv 0) pe_int (fun _ _ => rfl)) (pv 1) (fun _ _ => rfl)) (pe_op o_add (pv 1) pe_int) (nomark _)) (pw_or (pt_cmpA (o_ne hu) (pe_ix ix_seq (pe_ix ix_seq (pv 0) pe_int (fun _ _ => rfl)) (pe_op o_add (pv 1) pe_int) (fun _ _ => rfl)) (pv 1) (nomark _)) (pw_or1 (pt_tru (pe_ix ix_seq (pe_ix ix_seq (pv 0) pe_int (fun _ _ => rfl)) (pv 1) (fun _ _ => rfl))))))) (pss_one (ps_ret pe_bl)) pss_nil)))
      (pss_one (ps_ret pe_bl))), ?_⟩
  show (_ : Ends → L2.St → Hp → Prop) _ [some _, none] _
  try dsimp only [L2H.cxH, cxOf]
  have n0 := WF.n0 W
  have n1 := WF.n1 W
  have hF := WF.hF W
  have hL := WF.hL W
  have hla := bk_len W
  have hf0 : s.2.2.getD 0 default = false := WF.f0 W
  walk_at "w"
  refine w_rng1 (n := n + 1) (by omega) (by omega) (fun i σ' H' => (∃ z, σ' = [some (.ref w), z]) ∧ H' = H ∧ ∀ j : Nat, j < i → s.2.2.getD j default = false ∧ stateOf s.1 s.2.1 (j : Int) = ("joined" : Str)) ⟨⟨_, rfl⟩, rfl, fun j hj => by omega⟩ ?_ ?_
  · rintro i σ' H1 hi ⟨⟨z, rfl⟩, e, hj⟩
    subst e
    have eR := gd_app' W (x := n + 2) (i := i) (by omega)
    have js := state_joined (R := s.1) (L := s.2.1) (g := (i : Int))
    rw [Int.toNat_natCast] at js
    have bad : ¬(s.2.2.getD i default = false ∧ stateOf s.1 s.2.1 (i : Int) = ("joined" : Str)) → b = false := by
      intro z
      cases b with
      | false => rfl
      | true =>
        have := hb.mp rfl
        refine absurd ⟨?_, this.2 (i : Int) (by omega) (by omega)⟩ z
        by_cases c : i = 0
        · rw [c]; exact hf0
        · exact this.1 i (by omega) (by omega)
    walk_at "w"
    rw [Int.toNat_natCast, eR]
    refine w_iteN (fun c1 => ?_) (fun c1 => ?_)
    · walk_at "w"
      rw [bad (fun z => c1 (js.mp z.2).1)] at k
      exact k
    walk_at "w"
    refine w_iteN (fun c2 => ?_) (fun c2 => ?_)
    · walk_at "w"
      rw [bad (fun z => c2 (js.mp z.2).2)] at k
      exact k
    walk_at "w"
    rw [Int.toNat_natCast]
    refine w_iteb (fun c3 => ?_) (fun c3 => ?_)
    · walk_at "w"
      rw [bad (fun z => by rw [c3] at z; cases z.1)] at k
      exact k
    walk_at "w"
    refine ⟨⟨_, rfl⟩, rfl, fun j hj' => ?_⟩
    by_cases z : j < i
    · exact hj j z
    · obtain rfl : j = i := by omega
      exact ⟨c3, js.mpr ⟨c1, c2⟩⟩
  · rintro σ' H1 ⟨⟨z, rfl⟩, e, hj⟩
    subst e
    walk_at "w"
    have : b = true := hb.mpr ⟨fun v h1 h2 => (hj v (by omega)).1, fun g g0 g1 => by
      have := (hj g.toNat (by omega)).2
      rwa [show ((g.toNat : Nat) : Int) = g by omega] at this⟩
    rw [this] at k
    exact k
def sp__law_lost (a : AD) : Sp := fun vs H Q _ => ∃ (w l r f : Addr) (n : Int) (s : St3), vs = [.ref w] ∧ Bk H w l r f n s ∧ WFs n s ∧ ∀ p H', H p = none → Kp [] H H' → H' p = some (.lst ((lostL n s).map V.int)) → Q (.ref p) H'
theorem sc__law_lost : FnScope ["_law_book", "_law_gap"] ["_law_book"] (defScope s__law_lost) := ⟨rfl, rfl, rfl, by decide +kernel, rfl, by decide +kernel, by decide +kernel⟩
theorem ok__law_lost {P : Program} {w : World} {K : PySem.W.Frag} {mg : Str → Option Value} {base : Heap} {a : AD} (T : Txt P K mg a) : FnA P w K mg base 2 a.f__law_lost ["_law_book"] (sp__law_lost a) := by
  obtain ⟨fd, F, b⟩ := T.F__law_lost
  refine FnA.of F sc__law_lost b (fun vs H Q E h => by first | (obtain ⟨rfl, _⟩ := h; rfl) | (obtain ⟨_, rfl, _⟩ := h; rfl) | (obtain ⟨_, _, rfl, _⟩ := h; rfl) | (obtain ⟨_, _, _, rfl, _⟩ := h; rfl) | (obtain ⟨_, _, _, _, rfl, _⟩ := h; rfl) | (obtain ⟨_, _, _, _, _, rfl, _⟩ := h; rfl) | (obtain ⟨_, _, _, _, _, _, rfl, _⟩ := h; rfl) | (obtain ⟨_, _, _, _, _, _, _, rfl, _⟩ := h; rfl) | (obtain ⟨_, _, _, _, _, _, _, _, rfl, _⟩ := h; rfl) | (obtain ⟨_, _, _, _, _, _, _, _, _, rfl, _⟩ := h; rfl) | (obtain ⟨_, _, _, _, _, _, _, _, _, _, rfl, _⟩ := h; rfl) | (obtain ⟨_, _, _, _, _, _, _, _, _, _, _, rfl, _⟩ := h; rfl) | (obtain ⟨_, _, _, _, _, _, _, _, _, _, _, _, rfl, _⟩ := h; rfl) | (obtain ⟨_, _, _, _, _, _, _, _, _, _, _, _, _, rfl, _⟩ := h; rfl) | (obtain ⟨_, _, _, _, _, _, _, _, _, _, _, _, _, _, rfl, _⟩ := h; rfl) | (obtain ⟨_, _, _, _, _, _, _, _, _, _, _, _, _, _, _, rfl, _⟩ := h; rfl) | (obtain ⟨_, _, _, _, _, _, _, _, _, _, _, _, _, _, _, _, rfl, _⟩ := h; rfl) | (obtain ⟨_, _, _, _, _, _, _, _, _, _, _, _, _, _, _, _, _, rfl, _⟩ := h; rfl) | (obtain ⟨_, _, _, _, _, _, _, _, _, _, _, _, _, _, _, _, _, _, rfl, _⟩ := h; rfl) | (obtain ⟨_, _, _, _, _, _, _, _, _, _, _, _, _, _, _, _, _, _, _, rfl, _⟩ := h; rfl) | (obtain ⟨_, _, _, _, _, _, _, _, _, _, _, _, _, _, _, _, _, _, _, _, rfl, _⟩ := h; rfl) | (obtain ⟨_, _, _, _, _, _, _, _, _, _, _, _, _, _, _, _, _, _, _, _, _, rfl, _⟩ := h; rfl) | (obtain ⟨_, _, _, _, _, _, _, _, _, _, _, _, _, _, _, _, _, _, _, _, _, _, rfl, _⟩ := h; rfl) | (obtain ⟨_, _, _, _, _, _, _, _, _, _, _, _, _, _, _, _, _, _, _, _, _, _, _, rfl, _⟩ := h; rfl)) (fun cdv A outer s H vs Q E hr tk pz h => ?_)
  have hu := hr.units
  have hrH := L2H.roomH_of hr
  obtain ⟨w, l, r, f, n, s, rfl, ⟨hw, hl, hr', hf, _⟩, W, k⟩ := h
  refine ⟨_, (pss_one (ps_ret (pe_lc (own := [("_law_gap", 1)]) (g := (gName 1)) rfl sc__law_lost.nd (pi_range1 rfl T.b_range (pa_cons (pe_op o_add (pe_ix ix_seq (pv 0) pe_int (fun _ _ => rfl)) pe_int) pa_nil)) (blkOk_by (own := [("_law_gap", 1)]) (N := ["_law_book", "_law_gap"]) (sc := defScope s__law_lost) (by decide +kernel)) (fun _ _ _ _ _ => (pg_name (i := 1) sc__law_lost.nd rfl (Or.inl rfl))) (fun _ _ _ _ _ => (pts_one (PW.pt (pw_and (pt_cmpA (show OpR _ _ (aNe K) from (o_ne hu)) (pe_ix (show IxR _ (rIx K) from ix_seq) (pe_ix (show IxR _ (rIx K) from ix_seq) (pv 0) pe_int (fun _ _ => rfl)) (pv 1) (fun _ _ => rfl)) (pe_op o_add (pv 1) pe_int) (nomark _)) (pw_and1 (pt_cmpA (show OpR _ _ (aNe K) from (o_ne hu)) (pe_ix (show IxR _ (rIx K) from ix_seq) (pe_ix (show IxR _ (rIx K) from ix_seq) (pv 0) pe_int (fun _ _ => rfl)) (pe_op o_add (pv 1) pe_int) (fun _ _ => rfl)) (pv 1) (nomark _))))))) (fun _ _ _ _ _ => (pv 1))))), ?_⟩
  show (_ : Ends → L2.St → Hp → Prop) _ [some _, none] _
  try dsimp only [L2H.cxH, cxOf]
  have n0 := WF.n0 W
  have n1 := WF.n1 W
  have hL := WF.hL W
  have hla := bk_len W
  walk_at "w"
  refine w_lcR1 (f' := V.int) (fun i : Nat => if stateOf s.1 s.2.1 (i : Int) = ("lost" : Str) then some (i : Int) else none) (n := n + 1) (by omega) (by omega) (by rw [sizeLine_eq]; omega) ?_ ?_
  · intro D i acc H' hD hi hk hA hlen
    have hw5 := hk.at0 hw
    have hl5 := hk.at0 hl
    have hr5 := hk.at0 hr'
    have eR := gd_app' W (x := n + 2) (i := i) (by omega)
    have js := state_lost (R := s.1) (L := s.2.1) (g := (i : Int))
    rw [Int.toNat_natCast] at js
    walk_at "w"
    refine ⟨rfl, ?_⟩
    walk_at "w"
    rw [Int.toNat_natCast, eR]
    refine w_iteN (fun c1 => ?_) (fun c1 => ?_)
    · walk_at "w"
      refine w_iteN (fun c2 => ?_) (fun c2 => ?_)
      · walk_at "w"
        exact w_keep hk hA hlen hD (by rw [if_pos (js.mpr ⟨c1, c2⟩)])
      · walk_at "w"
        exact w_drop hk hA (by rw [if_neg (fun z => (js.mp z).2 c2)])
    · walk_at "w"
      exact w_drop hk hA (by rw [if_neg (fun z => (js.mp z).1 c1)])
  · intro D H' hD hk hA
    exact k D H' hD hk hA
def sp__law_is_due (a : AD) : Sp := fun vs H Q _ => ∃ (w l r f : Addr) (n v : Int) (s : St3), vs = [.ref w, .int v] ∧ Bk H w l r f n s ∧ WFs n s ∧ 1 ≤ v ∧ v ≤ n ∧ Q (.bl (decide (dueP s v))) H
theorem sc__law_is_due : FnScope ["_law_book", "_law_node"] ["_law_book", "_law_node"] (defScope s__law_is_due) := ⟨rfl, rfl, rfl, by decide +kernel, rfl, by decide +kernel, by decide +kernel⟩
theorem ok__law_is_due {P : Program} {w : World} {K : PySem.W.Frag} {mg : Str → Option Value} {base : Heap} {a : AD} (T : Txt P K mg a) : FnA P w K mg base 2 a.f__law_is_due ["_law_book", "_law_node"] (sp__law_is_due a) := by
  obtain ⟨fd, F, b⟩ := T.F__law_is_due
  refine FnA.of F sc__law_is_due b (fun vs H Q E h => by first | (obtain ⟨rfl, _⟩ := h; rfl) | (obtain ⟨_, rfl, _⟩ := h; rfl) | (obtain ⟨_, _, rfl, _⟩ := h; rfl) | (obtain ⟨_, _, _, rfl, _⟩ := h; rfl) | (obtain ⟨_, _, _, _, rfl, _⟩ := h; rfl) | (obtain ⟨_, _, _, _, _, rfl, _⟩ := h; rfl) | (obtain ⟨_, _, _, _, _, _, rfl, _⟩ := h; rfl) | (obtain ⟨_, _, _, _, _, _, _, rfl, _⟩ := h; rfl) | (obtain ⟨_, _, _, _, _, _, _, _, rfl, _⟩ := h; rfl) | (obtain ⟨_, _, _, _, _, _, _, _, _, rfl, _⟩ := h; rfl) | (obtain ⟨_, _, _, _, _, _, _, _, _, _, rfl, _⟩ := h; rfl) | (obtain ⟨_, _, _, _, _, _, _, _, _, _, _, rfl, _⟩ := h; rfl) | (obtain ⟨_, _, _, _, _, _, _, _, _, _, _, _, rfl, _⟩ := h; rfl) | (obtain ⟨_, _, _, _, _, _, _, _, _, _, _, _, _, rfl, _⟩ := h; rfl) | (obtain ⟨_, _, _, _, _, _, _, _, _, _, _, _, _, _, rfl, _⟩ := h; rfl) | (obtain ⟨_, _, _, _, _, _, _, _, _, _, _, _, _, _, _, rfl, _⟩ := h; rfl) | (obtain ⟨_, _, _, _, _, _, _, _, _, _, _, _, _, _, _, _, rfl, _⟩ := h; rfl) | (obtain ⟨_, _, _, _, _, _, _, _, _, _, _, _, _, _, _, _, _, rfl, _⟩ := h; rfl) | (obtain ⟨_, _, _, _, _, _, _, _, _, _, _, _, _, _, _, _, _, _, rfl, _⟩ := h; rfl) | (obtain ⟨_, _, _, _, _, _, _, _, _, _, _, _, _, _, _, _, _, _, _, rfl, _⟩ := h; rfl) | (obtain ⟨_, _, _, _, _, _, _, _, _, _, _, _, _, _, _, _, _, _, _, _, rfl, _⟩ := h; rfl) | (obtain ⟨_, _, _, _, _, _, _, _, _, _, _, _, _, _, _, _, _, _, _, _, _, rfl, _⟩ := h; rfl) | (obtain ⟨_, _, _, _, _, _, _, _, _, _, _, _, _, _, _, _, _, _, _, _, _, _, rfl, _⟩ := h; rfl) | (obtain ⟨_, _, _, _, _, _, _, _, _, _, _, _, _, _, _, _, _, _, _, _, _, _, _, rfl, _⟩ := h; rfl)) (fun cdv A outer s H vs Q E hr tk pz h => ?_)
  have hu := hr.units
  have hrH := L2H.roomH_of hr
  obtain ⟨w, l, r, f, n, v, s, rfl, ⟨hw, hl, hr', hf, _⟩, W, v1, v2, k⟩ := h
  refine ⟨_, (pss_cons (ps_if (pt_tru (pe_ix ix_seq (pe_ix ix_seq (pv 0) pe_int (fun _ _ => rfl)) (pv 1) (fun _ _ => rfl))) (pss_one (ps_ret pe_bl)) pss_nil)
      (pss_cons (ps_if (PW.pt (pw_and (pt_cmpA (o_eq hu) (pe_ix ix_seq (pe_ix ix_seq (pv 0) pe_int (fun _ _ => rfl)) (pv 1) (fun _ _ => rfl)) (pe_op op_sub (pv 1) pe_int) (nomark _)) (pw_and1 (pt_cmpA (o_ne hu) (pe_ix ix_seq (pe_ix ix_seq (pv 0) pe_int (fun _ _ => rfl)) (pe_op op_sub (pv 1) pe_int) (fun _ _ => rfl)) (pv 1) (nomark _))))) (pss_one (ps_ret pe_bl)) pss_nil)
      (pss_one (ps_ret (pe_and (pe_cmpR (o_eq hu) (pe_ix ix_seq (pe_ix ix_seq (pv 0) pe_int (fun _ _ => rfl)) (pv 1) (fun _ _ => rfl)) (pe_op o_add (pv 1) pe_int) (nomark _)) (pe_one (pe_cmpR (o_ne hu) (pe_ix ix_seq (pe_ix ix_seq (pv 0) pe_int (fun _ _ => rfl)) (pe_op o_add (pv 1) pe_int) (fun _ _ => rfl)) (pv 1) (nomark _)))))))), ?_⟩
  show (_ : Ends → L2.St → Hp → Prop) _ [some _, some _] _
  try dsimp only [L2H.cxH, cxOf]
  have n0 := WF.n0 W
  have hF := WF.hF W
  have hL := WF.hL W
  have hla := bk_len W
  have eR := gd_app' W (x := n + 2) (i := v.toNat) (by omega)
  have eR1 := gd_app' W (x := n + 2) (i := (v - 1).toNat) (by omega)
  have jl := state_left (R := s.1) (L := s.2.1) (g := v)
  have jr := state_right (R := s.1) (L := s.2.1) (g := v - 1)
  rw [show v - 1 + 1 = v by omega] at jr
  have yes : dueP s v → Q (.bl true) H := fun z => by rw [decide_eq_true z] at k; exact k
  have no : ¬dueP s v → Q (.bl false) H := fun z => by rw [decide_eq_false z] at k; exact k
  walk_at "w"
  refine w_iteb (fun c => ?_) (fun c => ?_)
  · walk_at "w"
    exact yes (.inl c)
  walk_at "w"
  refine w_ite (fun c1 => ?_) (fun c1 => ?_)
  · walk_at "w"
    rw [eR1]
    refine w_iteN (fun c2 => ?_) (fun c2 => ?_)
    · walk_at "w"
      exact yes (.inr (.inr (jr.mpr ⟨c2, c1⟩)))
    walk_at "w"
    rw [eR]
    have nr : ¬stateOf s.1 s.2.1 (v - 1) = ("right" : Str) := fun z => (jr.mp z).1 c2
    by_cases c3 : s.1.getD v.toNat default = v + 1
    · rw [show decide (s.1.getD v.toNat default = v + 1) = true by simpa using c3]
      walk_at "w"
      by_cases c4 : s.2.1.getD (v + 1).toNat default = v
      · rw [show decide (s.2.1.getD (v + 1).toNat default = v) = true by simpa using c4]
        refine no (fun z => ?_)
        rcases z with z | z | z
        · rw [c] at z; cases z
        · exact (jl.mp z).2 c4
        · exact nr z
      · rw [show decide (s.2.1.getD (v + 1).toNat default = v) = false by simpa using c4]
        exact yes (.inr (.inl (jl.mpr ⟨c3, c4⟩)))
    · rw [show decide (s.1.getD v.toNat default = v + 1) = false by simpa using c3]
      walk_at "w"
      refine no (fun z => ?_)
      rcases z with z | z | z
      · rw [c] at z; cases z
      · exact c3 (jl.mp z).1
      · exact nr z
  · walk_at "w"
    rw [eR]
    have nr : ¬stateOf s.1 s.2.1 (v - 1) = ("right" : Str) := fun z => c1 (jr.mp z).2
    by_cases c3 : s.1.getD v.toNat default = v + 1
    · rw [show decide (s.1.getD v.toNat default = v + 1) = true by simpa using c3]
      walk_at "w"
      by_cases c4 : s.2.1.getD (v + 1).toNat default = v
      · rw [show decide (s.2.1.getD (v + 1).toNat default = v) = true by simpa using c4]
        refine no (fun z => ?_)
        rcases z with z | z | z
        · rw [c] at z; cases z
        · exact (jl.mp z).2 c4
        · exact nr z
      · rw [show decide (s.2.1.getD (v + 1).toNat default = v) = false by simpa using c4]
        exact yes (.inr (.inl (jl.mpr ⟨c3, c4⟩)))
    · rw [show decide (s.1.getD v.toNat default = v + 1) = false by simpa using c3]
      walk_at "w"
      refine no (fun z => ?_)
      rcases z with z | z | z
      · rw [c] at z; cases z
      · exact c3 (jl.mp z).1
      · exact nr z

/-! ### the book's text -/
theorem join_ne {us : List Int} (hne : us ≠ []) (h : ∀ u ∈ us, 0 ≤ u) : Txt.join " " (us.map strI) ≠ ("" : Str) := by
  intro e
  have hs := split_nums hne h
  rw [e, show Txt.split ("" : Str) " " = [("" : Str)] by decide +kernel] at hs
  cases us with
  | nil => exact hne rfl
  | cons u rest =>
    rw [List.map_cons] at hs
    injection hs with h1 h2
    have h3 := congrArg TL.tl h1
    rw [tl_strI (h u List.mem_cons_self)] at h3
    exact TL.numL_ne _ (h3.symm.trans (by decide +kernel))
theorem outs0 {n : Int} {F : List Bool} (n0 : 0 ≤ n) (h : F.getD 0 default = false) : (List.range (n + 1).toNat).filterMap (fun i : Nat => if F.getD i default = true then some (strI (i : Int)) else none) = (outL n F).map strI := by
  rw [show (n + 1).toNat = n.toNat + 1 by omega, List.range_succ_eq_map, List.filterMap_cons, h, if_neg Bool.false_ne_true]
  unfold outL
  rw [List.filterMap_map, List.map_filterMap]
  apply fm_congr
  intro i _
  show (if F.getD (i + 1) default = true then some (strI ((i + 1 : Nat) : Int)) else none) = Option.map strI (if F.getD (i + 1) default = true then some (1 + (i : Int)) else none)
  by_cases c : F.getD (i + 1) default = true
  · rw [if_pos c, if_pos c, show ((i + 1 : Nat) : Int) = 1 + (i : Int) by omega]; rfl
  · rw [if_neg c, if_neg c]; rfl
def sp__law_dump (a : AD) : Sp := fun vs H Q _ => ∃ (w l r f : Addr) (n : Int) (s : St3), vs = [.ref w] ∧ Bk H w l r f n s ∧ WFs n s ∧ ∀ H', Kp [] H H' → Q (.str (textOf n s.1 s.2.1 s.2.2)) H'
theorem sc__law_dump : FnScope ["_law_book", "_law_link", "_law_rights", "_law_lefts", "_law_node", "_law_outs"] ["_law_book"] (defScope s__law_dump) := ⟨rfl, rfl, rfl, by decide +kernel, rfl, by decide +kernel, by decide +kernel⟩
theorem ok__law_dump {P : Program} {w : World} {K : PySem.W.Frag} {mg : Str → Option Value} {base : Heap} {a : AD} (T : Txt P K mg a) : FnA P w K mg base 2 a.f__law_dump ["_law_book"] (sp__law_dump a) := by
  obtain ⟨fd, F, b⟩ := T.F__law_dump
  refine FnA.of F sc__law_dump b (fun vs H Q E h => by first | (obtain ⟨rfl, _⟩ := h; rfl) | (obtain ⟨_, rfl, _⟩ := h; rfl) | (obtain ⟨_, _, rfl, _⟩ := h; rfl) | (obtain ⟨_, _, _, rfl, _⟩ := h; rfl) | (obtain ⟨_, _, _, _, rfl, _⟩ := h; rfl) | (obtain ⟨_, _, _, _, _, rfl, _⟩ := h; rfl) | (obtain ⟨_, _, _, _, _, _, rfl, _⟩ := h; rfl) | (obtain ⟨_, _, _, _, _, _, _, rfl, _⟩ := h; rfl) | (obtain ⟨_, _, _, _, _, _, _, _, rfl, _⟩ := h; rfl) | (obtain ⟨_, _, _, _, _, _, _, _, _, rfl, _⟩ := h; rfl) | (obtain ⟨_, _, _, _, _, _, _, _, _, _, rfl, _⟩ := h; rfl) | (obtain ⟨_, _, _, _, _, _, _, _, _, _, _, rfl, _⟩ := h; rfl) | (obtain ⟨_, _, _, _, _, _, _, _, _, _, _, _, rfl, _⟩ := h; rfl) | (obtain ⟨_, _, _, _, _, _, _, _, _, _, _, _, _, rfl, _⟩ := h; rfl) | (obtain ⟨_, _, _, _, _, _, _, _, _, _, _, _, _, _, rfl, _⟩ := h; rfl) | (obtain ⟨_, _, _, _, _, _, _, _, _, _, _, _, _, _, _, rfl, _⟩ := h; rfl) | (obtain ⟨_, _, _, _, _, _, _, _, _, _, _, _, _, _, _, _, rfl, _⟩ := h; rfl) | (obtain ⟨_, _, _, _, _, _, _, _, _, _, _, _, _, _, _, _, _, rfl, _⟩ := h; rfl) | (obtain ⟨_, _, _, _, _, _, _, _, _, _, _, _, _, _, _, _, _, _, rfl, _⟩ := h; rfl) | (obtain ⟨_, _, _, _, _, _, _, _, _, _, _, _, _, _, _, _, _, _, _, rfl, _⟩ := h; rfl) | (obtain ⟨_, _, _, _, _, _, _, _, _, _, _, _, _, _, _, _, _, _, _, _, rfl, _⟩ := h; rfl) | (obtain ⟨_, _, _, _, _, _, _, _, _, _, _, _, _, _, _, _, _, _, _, _, _, rfl, _⟩ := h; rfl) | (obtain ⟨_, _, _, _, _, _, _, _, _, _, _, _, _, _, _, _, _, _, _, _, _, _, rfl, _⟩ := h; rfl) | (obtain ⟨_, _, _, _, _, _, _, _, _, _, _, _, _, _, _, _, _, _, _, _, _, _, _, rfl, _⟩ := h; rfl)) (fun cdv A outer s H vs Q E hr tk pz h => ?_)
  have hu := hr.units
  have hrH := L2H.roomH_of hr
  obtain ⟨w, l, r, f, n, ⟨R, L, F⟩, rfl, ⟨hw, hl, hr', hf, _⟩, W, k⟩ := h
  refine ⟨_, (pss_cons (ps_set (i := 2) sc__law_dump.nd rfl (Or.inl rfl) (pe_bm PySem.F.plainAttrs_str PySem.F.slot_str_join PySem.F.type_str_join m_join pe_str (pa_cons (pe_lc (own := [("_law_link", 1)]) (g := (gName 1)) (tt := tYes) rfl sc__law_dump.nd (pi_list (pe_slice sl_any (pe_ix ix_seq (pv 0) pe_int (fun _ _ => rfl)) po_none (po_some (pe_op o_add (pe_ix ix_seq (pv 0) pe_int (fun _ _ => rfl)) pe_int)))) (blkOk_by (own := [("_law_link", 1)]) (N := ["_law_book", "_law_link", "_law_rights", "_law_lefts", "_law_node", "_law_outs"]) (sc := defScope s__law_dump) (by decide +kernel)) (fun _ _ _ _ _ => (pg_name (i := 1) sc__law_dump.nd rfl (Or.inl rfl))) (fun _ _ _ _ _ => pts_nil) (fun _ _ _ _ _ => (pe_callTy b_str rfl T.b_str (by decide +kernel) (pa_cons (pv 1) pa_nil)))) pa_nil)))
      (pss_cons (ps_set (i := 3) sc__law_dump.nd rfl (Or.inl rfl) (pe_bm PySem.F.plainAttrs_str PySem.F.slot_str_join PySem.F.type_str_join m_join pe_str (pa_cons (pe_lc (own := [("_law_link", 1)]) (g := (gName 1)) (tt := tYes) rfl sc__law_dump.nd (pi_list (pe_slice sl_any (pe_ix ix_seq (pv 0) pe_int (fun _ _ => rfl)) (po_some pe_int) po_none)) (blkOk_by (own := [("_law_link", 1)]) (N := ["_law_book", "_law_link", "_law_rights", "_law_lefts", "_law_node", "_law_outs"]) (sc := defScope s__law_dump) (by decide +kernel)) (fun _ _ _ _ _ => (pg_name (i := 1) sc__law_dump.nd rfl (Or.inl rfl))) (fun _ _ _ _ _ => pts_nil) (fun _ _ _ _ _ => (pe_callTy b_str rfl T.b_str (by decide +kernel) (pa_cons (pv 1) pa_nil)))) pa_nil)))
      (pss_cons (ps_set (i := 5) sc__law_dump.nd rfl (Or.inl rfl) (pe_bm PySem.F.plainAttrs_str PySem.F.slot_str_join PySem.F.type_str_join m_join pe_str (pa_cons (pe_lc (own := [("_law_node", 4)]) (g := (gName 4)) rfl sc__law_dump.nd (pi_range1 rfl T.b_range (pa_cons (pe_op o_add (pe_ix ix_seq (pv 0) pe_int (fun _ _ => rfl)) pe_int) pa_nil)) (blkOk_by (own := [("_law_node", 4)]) (N := ["_law_book", "_law_link", "_law_rights", "_law_lefts", "_law_node", "_law_outs"]) (sc := defScope s__law_dump) (by decide +kernel)) (fun _ _ _ _ _ => (pg_name (i := 4) sc__law_dump.nd rfl (Or.inl rfl))) (fun _ _ _ _ _ => (pts_one (show PT _ _ (cTru K _) from (pt_tru (pe_ix (show IxR _ (rIx K) from ix_seq) (pe_ix (show IxR _ (rIx K) from ix_seq) (pv 0) pe_int (fun _ _ => rfl)) (pv 4) (fun _ _ => rfl)))))) (fun _ _ _ _ _ => (pe_callTy b_str rfl T.b_str (by decide +kernel) (pa_cons (pv 4) pa_nil)))) pa_nil)))
      (pss_cut (ps_if (pt_cmpA (o_eq hu) (pv 5) pe_str (nomark _)) (pss_one (ps_set (i := 5) sc__law_dump.nd rfl (Or.inl rfl) pe_str)) pss_nil)
      (pss_one (ps_ret (pe_op o_add (pe_op o_add (pe_op o_add (pe_op o_add (pv 2) pe_str) (pv 3)) pe_str) (pv 5)))))))), ?_⟩
  show (_ : Ends → L2.St → Hp → Prop) _ [some _, none, none, none, none, none] _
  try dsimp only [L2H.cxH, cxOf]
  have W : WF n R L F := W
  have hl : H l = some (.lst (L.map V.int)) := hl
  have hr' : H r = some (.lst ((R ++ [n + 2]).map V.int)) := hr'
  have hf : H f = some (.lst (F.map V.bl)) := hf
  have k : ∀ H', Kp [] H H' → Q (.str (textOf n R L F)) H' := k
  have n0 := W.n0
  have n1 := W.n1
  have w1 := W.hR
  have w2 := W.hL
  have w3 := W.hF
  have htl := text_len W
  have sp1 : (" " : Str).length = 1 := by decide +kernel
  have s1 := (nums_len W.rs).2
  have s2 := (nums_len W.ls).2
  have s3 := (nums_len W.os).2
  have ol := outL_len n F
  have b1 : ((R.map strI).map (·.length)).sum + (R.map strI).length * (" " : Str).length ≤ 16777216 := by rw [sp1, List.length_map]; omega
  have b2 : (((L.drop 1).map strI).map (·.length)).sum + ((L.drop 1).map strI).length * (" " : Str).length ≤ 16777216 := by rw [sp1, List.length_map]; rw [List.length_drop] at s2 ⊢; omega
  have b3 : (((outL n F).map strI).map (·.length)).sum + ((outL n F).map strI).length * (" " : Str).length ≤ 16777216 := by rw [sp1, List.length_map]; omega
  have ecut : cut (R ++ [n + 2]) none (some (n + 1)) = R := by
    unfold cut HT.sIx
    dsimp only
    rw [if_neg (by omega), List.drop_zero, Nat.sub_zero, Nat.min_eq_left (by rw [List.length_append]; simp; omega), List.take_append_of_le_length (by omega), List.take_of_length_le (by omega)]
  walk_at "w"
  rw [ecut]
  intro t0 ht0
  have k0 : Kp [] H (upd H t0 (.lst (R.map V.int))) := Kp.refl.new ht0
  have ht01 : upd H t0 (.lst (R.map V.int)) t0 = some (.lst (R.map V.int)) := upd_same
  generalize upd H t0 (.lst (R.map V.int)) = H0 at k0 ht01 ⊢
  walk_at "w"
  refine w_lcM (us := R) (f := V.int) (f' := V.str) (fun o => some (strI o)) ht01 (by rw [sizeLine_eq]; omega) ?_ ?_
  · intro D i u acc H' hD hu hk hA hlen
    have hub := W.rs u (List.mem_of_getElem? hu)
    walk_at "w"
    refine ⟨rfl, ?_⟩
    walk_at "w"
    exact w_keep hk hA hlen hD rfl
  intro d1 H1 hd1 hk1 hA1
  rw [fm_some] at hA1
  have k1 := k0.trans0 hk1
  have hw1 := k1.at0 hw
  have hl1 := k1.at0 hl
  walk_at "w"
  rw [cut_tail]
  intro t ht
  have k4 : Kp [] H (upd H1 t (.lst ((L.drop 1).map V.int))) := k1.new ht
  have ht4 : upd H1 t (.lst ((L.drop 1).map V.int)) t = some (.lst ((L.drop 1).map V.int)) := upd_same
  generalize upd H1 t (.lst ((L.drop 1).map V.int)) = H4 at k4 ht4 ⊢
  walk_at "w"
  refine w_lcM (us := L.drop 1) (f := V.int) (f' := V.str) (fun o => some (strI o)) ht4 (by rw [sizeLine_eq, List.length_drop]; omega) ?_ ?_
  · intro D i u acc H' hD hu hk hA hlen
    have hub := W.ls u (List.mem_of_getElem? hu)
    walk_at "w"
    refine ⟨rfl, ?_⟩
    walk_at "w"
    exact w_keep hk hA hlen hD rfl
  intro d2 H5 hd2 hk5 hA5
  rw [fm_some] at hA5
  have k5 := k4.trans0 hk5
  have hw5 := k5.at0 hw
  have hf5 := k5.at0 hf
  walk_at "w"
  refine w_lcR1 (f' := V.str) (fun i : Nat => if F.getD i default = true then some (strI (i : Int)) else none) (n := n + 1) (by omega) (by omega) (by rw [sizeLine_eq]; omega) ?_ ?_
  · intro D i acc H' hD hi hk hA hlen
    have hw6 := hk.at0 hw5
    have hf6 := hk.at0 hf5
    walk_at "w"
    refine ⟨rfl, ?_⟩
    walk_at "w"
    rw [Int.toNat_natCast]
    refine w_iteb (fun c => ?_) (fun c => ?_)
    · walk_at "w"
      exact w_keep hk hA hlen hD (by rw [if_pos c]; rfl)
    · walk_at "w"
      exact w_drop hk hA (by rw [if_neg (by rw [c]; exact Bool.false_ne_true)])
  intro g H6 hg hk6 hG
  rw [outs0 n0 W.f0] at hG
  have k6 := k5.trans0 hk6
  walk_at "w"
  refine s_cut (fun σ' H2 => H2 = H6 ∧ ∃ z1 z4, σ' = [some (.ref w), z1, some (.str (Txt.join " " (R.map strI))), some (.str (Txt.join " " ((L.drop 1).map strI))), z4, some (.str (goneT n F))]) ?_ ?_
  · walk_at "w"
    unfold goneT
    by_cases e : outL n F = []
    · rw [if_pos e, e]
      rw [show decide (Txt.join " " (([] : List Int).map strI) = ("" : Str)) = true by decide +kernel]
      walk_at "w"
      exact ⟨rfl, _, _, rfl⟩
    · rw [if_neg e, show decide (Txt.join " " ((outL n F).map strI) = ("" : Str)) = false by simpa using join_ne e (fun u hu => by have := (outL_mem hu).1; omega)]
      walk_at "w"
      exact ⟨rfl, _, _, rfl⟩
  · rintro σ' H2 ⟨e, z1, z4, rfl⟩
    subst e
    have hb : (" | " : Str).length = 3 := by decide +kernel
    have l1 : (Txt.join " " (R.map strI) ++ " | ").length = (Txt.join " " (R.map strI)).length + 3 := by rw [len_app, hb]
    have l2 : (Txt.join " " (R.map strI) ++ " | " ++ Txt.join " " ((L.drop 1).map strI)).length = (Txt.join " " (R.map strI)).length + 3 + (Txt.join " " ((L.drop 1).map strI)).length := by rw [len_app, l1]
    have l3 : (Txt.join " " (R.map strI) ++ " | " ++ Txt.join " " ((L.drop 1).map strI) ++ " | ").length = (Txt.join " " (R.map strI)).length + 3 + (Txt.join " " ((L.drop 1).map strI)).length + 3 := by rw [len_app, l2, hb]
    walk_at "w"
    exact k H2 k6
def sp__law_due (a : AD) : Sp := fun vs H Q _ => ∃ (w l r f : Addr) (n : Int) (s : St3), vs = [.ref w] ∧ Bk H w l r f n s ∧ WFs n s ∧ ∀ p H', H p = none → Kp [] H H' → H' p = some (.lst ((dueL n s).map V.int)) → Q (.ref p) H'
theorem sc__law_due : FnScope ["_law_book", "_law_node"] ["_law_book"] (defScope s__law_due) := ⟨rfl, rfl, rfl, by decide +kernel, rfl, by decide +kernel, by decide +kernel⟩
theorem ok__law_due {P : Program} {w : World} {K : PySem.W.Frag} {mg : Str → Option Value} {base : Heap} {a : AD} (T : Txt P K mg a) (G__law_is_due : FnA P w K mg base 2 a.f__law_is_due ["_law_book", "_law_node"] (sp__law_is_due a)) : FnA P w K mg base 3 a.f__law_due ["_law_book"] (sp__law_due a) := by
  obtain ⟨fd, F, b⟩ := T.F__law_due
  refine FnA.of F sc__law_due b (fun vs H Q E h => by first | (obtain ⟨rfl, _⟩ := h; rfl) | (obtain ⟨_, rfl, _⟩ := h; rfl) | (obtain ⟨_, _, rfl, _⟩ := h; rfl) | (obtain ⟨_, _, _, rfl, _⟩ := h; rfl) | (obtain ⟨_, _, _, _, rfl, _⟩ := h; rfl) | (obtain ⟨_, _, _, _, _, rfl, _⟩ := h; rfl) | (obtain ⟨_, _, _, _, _, _, rfl, _⟩ := h; rfl) | (obtain ⟨_, _, _, _, _, _, _, rfl, _⟩ := h; rfl) | (obtain ⟨_, _, _, _, _, _, _, _, rfl, _⟩ := h; rfl) | (obtain ⟨_, _, _, _, _, _, _, _, _, rfl, _⟩ := h; rfl) | (obtain ⟨_, _, _, _, _, _, _, _, _, _, rfl, _⟩ := h; rfl) | (obtain ⟨_, _, _, _, _, _, _, _, _, _, _, rfl, _⟩ := h; rfl) | (obtain ⟨_, _, _, _, _, _, _, _, _, _, _, _, rfl, _⟩ := h; rfl) | (obtain ⟨_, _, _, _, _, _, _, _, _, _, _, _, _, rfl, _⟩ := h; rfl) | (obtain ⟨_, _, _, _, _, _, _, _, _, _, _, _, _, _, rfl, _⟩ := h; rfl) | (obtain ⟨_, _, _, _, _, _, _, _, _, _, _, _, _, _, _, rfl, _⟩ := h; rfl) | (obtain ⟨_, _, _, _, _, _, _, _, _, _, _, _, _, _, _, _, rfl, _⟩ := h; rfl) | (obtain ⟨_, _, _, _, _, _, _, _, _, _, _, _, _, _, _, _, _, rfl, _⟩ := h; rfl) | (obtain ⟨_, _, _, _, _, _, _, _, _, _, _, _, _, _, _, _, _, _, rfl, _⟩ := h; rfl) | (obtain ⟨_, _, _, _, _, _, _, _, _, _, _, _, _, _, _, _, _, _, _, rfl, _⟩ := h; rfl) | (obtain ⟨_, _, _, _, _, _, _, _, _, _, _, _, _, _, _, _, _, _, _, _, rfl, _⟩ := h; rfl) | (obtain ⟨_, _, _, _, _, _, _, _, _, _, _, _, _, _, _, _, _, _, _, _, _, rfl, _⟩ := h; rfl) | (obtain ⟨_, _, _, _, _, _, _, _, _, _, _, _, _, _, _, _, _, _, _, _, _, _, rfl, _⟩ := h; rfl) | (obtain ⟨_, _, _, _, _, _, _, _, _, _, _, _, _, _, _, _, _, _, _, _, _, _, _, rfl, _⟩ := h; rfl)) (fun cdv A outer s H vs Q E hr tk pz h => ?_)
  have hu := hr.units
  have hrH := L2H.roomH_of hr
  obtain ⟨w, l, r, f, n, s, rfl, hB, W, k⟩ := h
  refine ⟨_, (pss_one (ps_ret (pe_lc (own := [("_law_node", 1)]) (g := (gName 1)) rfl sc__law_due.nd (pi_range2 rfl T.b_range (pa_cons pe_int (pa_cons (pe_op o_add (pe_ix ix_seq (pv 0) pe_int (fun _ _ => rfl)) pe_int) pa_nil))) (blkOk_by (own := [("_law_node", 1)]) (N := ["_law_book", "_law_node"]) (sc := defScope s__law_due) (by decide +kernel)) (fun _ _ _ _ _ => (pg_name (i := 1) sc__law_due.nd rfl (Or.inl rfl))) (fun _ _ _ _ _ => (pts_one (show PT _ _ (cTru K _) from (pt_tru (pe_callA G__law_is_due (Room.mono hr (by decide)) T.n__law_is_due takes0 (pa_cons (pv 0) (pa_cons (pv 1) pa_nil))))))) (fun _ _ _ _ _ => (pv 1))))), ?_⟩
  show (_ : Ends → L2.St → Hp → Prop) _ [some _, none] _
  try dsimp only [L2H.cxH, cxOf]
  have n0 := WF.n0 W
  have n1 := WF.n1 W
  have hw := hB.1
  walk_at "w"
  refine w_lcR2 (f' := V.int) (fun i : Nat => if dueP s (1 + (i : Int)) then some (1 + (i : Int)) else none) (lo := 1) (n := n + 1) (by omega) (by omega) (by omega) (by omega) (by rw [sizeLine_eq]; omega) ?_ ?_
  · intro D i acc H' hD hi hk hA hlen
    walk_at "w"
    refine ⟨rfl, ?_⟩
    walk_at "w"
    refine ⟨w, l, r, f, n, 1 + (i : Int), s, rfl, hB.kp0 hk, W, by omega, by omega, ?_⟩
    walk_at "w"
    refine w_ite (fun c => ?_) (fun c => ?_)
    · walk_at "w"
      exact w_keep hk hA hlen hD (by rw [if_pos c])
    · walk_at "w"
      exact w_drop hk hA (by rw [if_neg c])
  · intro D H' hD hk hA
    rw [show (n + 1 - 1).toNat = n.toNat by omega] at hA
    exact k D H' hD hk hA
def sp__law_owed (a : AD) : Sp := fun vs H Q _ => ∃ (w l r f : Addr) (n : Int) (s : St3), vs = [.ref w] ∧ Bk H w l r f n s ∧ WFs n s ∧ ∀ H', Kp [] H H' → Q (.int (debtF n s)) H'
theorem sc__law_owed : FnScope ["_law_book", "_law_node"] ["_law_book"] (defScope s__law_owed) := ⟨rfl, rfl, rfl, by decide +kernel, rfl, by decide +kernel, by decide +kernel⟩
theorem ok__law_owed {P : Program} {w : World} {K : PySem.W.Frag} {mg : Str → Option Value} {base : Heap} {a : AD} (T : Txt P K mg a) (G__law_due : FnA P w K mg base 3 a.f__law_due ["_law_book"] (sp__law_due a)) : FnA P w K mg base 4 a.f__law_owed ["_law_book"] (sp__law_owed a) := by
  obtain ⟨fd, F, b⟩ := T.F__law_owed
  refine FnA.of F sc__law_owed b (fun vs H Q E h => by first | (obtain ⟨rfl, _⟩ := h; rfl) | (obtain ⟨_, rfl, _⟩ := h; rfl) | (obtain ⟨_, _, rfl, _⟩ := h; rfl) | (obtain ⟨_, _, _, rfl, _⟩ := h; rfl) | (obtain ⟨_, _, _, _, rfl, _⟩ := h; rfl) | (obtain ⟨_, _, _, _, _, rfl, _⟩ := h; rfl) | (obtain ⟨_, _, _, _, _, _, rfl, _⟩ := h; rfl) | (obtain ⟨_, _, _, _, _, _, _, rfl, _⟩ := h; rfl) | (obtain ⟨_, _, _, _, _, _, _, _, rfl, _⟩ := h; rfl) | (obtain ⟨_, _, _, _, _, _, _, _, _, rfl, _⟩ := h; rfl) | (obtain ⟨_, _, _, _, _, _, _, _, _, _, rfl, _⟩ := h; rfl) | (obtain ⟨_, _, _, _, _, _, _, _, _, _, _, rfl, _⟩ := h; rfl) | (obtain ⟨_, _, _, _, _, _, _, _, _, _, _, _, rfl, _⟩ := h; rfl) | (obtain ⟨_, _, _, _, _, _, _, _, _, _, _, _, _, rfl, _⟩ := h; rfl) | (obtain ⟨_, _, _, _, _, _, _, _, _, _, _, _, _, _, rfl, _⟩ := h; rfl) | (obtain ⟨_, _, _, _, _, _, _, _, _, _, _, _, _, _, _, rfl, _⟩ := h; rfl) | (obtain ⟨_, _, _, _, _, _, _, _, _, _, _, _, _, _, _, _, rfl, _⟩ := h; rfl) | (obtain ⟨_, _, _, _, _, _, _, _, _, _, _, _, _, _, _, _, _, rfl, _⟩ := h; rfl) | (obtain ⟨_, _, _, _, _, _, _, _, _, _, _, _, _, _, _, _, _, _, rfl, _⟩ := h; rfl) | (obtain ⟨_, _, _, _, _, _, _, _, _, _, _, _, _, _, _, _, _, _, _, rfl, _⟩ := h; rfl) | (obtain ⟨_, _, _, _, _, _, _, _, _, _, _, _, _, _, _, _, _, _, _, _, rfl, _⟩ := h; rfl) | (obtain ⟨_, _, _, _, _, _, _, _, _, _, _, _, _, _, _, _, _, _, _, _, _, rfl, _⟩ := h; rfl) | (obtain ⟨_, _, _, _, _, _, _, _, _, _, _, _, _, _, _, _, _, _, _, _, _, _, rfl, _⟩ := h; rfl) | (obtain ⟨_, _, _, _, _, _, _, _, _, _, _, _, _, _, _, _, _, _, _, _, _, _, _, rfl, _⟩ := h; rfl)) (fun cdv A outer s H vs Q E hr tk pz h => ?_)
  have hu := hr.units
  have hrH := L2H.roomH_of hr
  obtain ⟨w, l, r, f, n, s, rfl, hB, W, k⟩ := h
  refine ⟨_, (pss_one (ps_ret (pe_callB (cr_sum rfl) rfl T.b_sum (by decide +kernel) (pa_cons (pe_lc (own := [("_law_node", 1)]) (g := (gName 1)) (tt := tYes) rfl sc__law_owed.nd (pi_list (pe_callA G__law_due (Room.mono hr (by decide)) T.n__law_due tk (pa_cons (pv 0) pa_nil))) (blkOk_by (own := [("_law_node", 1)]) (N := ["_law_book", "_law_node"]) (sc := defScope s__law_owed) (by decide +kernel)) (fun _ _ _ _ _ => (pg_name (i := 1) sc__law_owed.nd rfl (Or.inl rfl))) (fun _ _ _ _ _ => pts_nil) (fun _ _ _ _ _ => (pe_ifExp (show PT _ _ (cTru K _) from (pt_tru (pe_ix (show IxR _ (rIx K) from ix_seq) (pe_ix (show IxR _ (rIx K) from ix_seq) (pv 0) pe_int (fun _ _ => rfl)) (pv 1) (fun _ _ => rfl)))) pe_int pe_int))) pa_nil)))), ?_⟩
  show (_ : Ends → L2.St → Hp → Prop) _ [some _, none] _
  try dsimp only [L2H.cxH, cxOf]
  have n0 := WF.n0 W
  have n1 := WF.n1 W
  have hF := WF.hF W
  have hdl := dueL_len n s
  walk_at "w"
  refine ⟨w, l, r, f, n, s, rfl, hB, W, fun p H1 hp k1 hp1 => ?_⟩
  have hw := k1.at0 hB.1
  have hf := k1.at0 hB.2.2.2.1
  walk_at "w"
  refine w_lcM (f := V.int) (f' := V.int) (fun v => some (shareF s v)) hp1 (by rw [sizeLine_eq]; omega) ?_ ?_
  · intro D i u acc H' hD hu hk hA hlen
    have hv := dueL_in u (List.mem_of_getElem? hu)
    have hw5 := hk.at0 hw
    have hf5 := hk.at0 hf
    walk_at "w"
    refine ⟨rfl, ?_⟩
    walk_at "w"
    unfold shareF
    refine w_iteb (fun c => ?_) (fun c => ?_)
    · walk_at "w"
      exact w_keep hk hA hlen hD (by rw [if_pos c])
    · walk_at "w"
      exact w_keep hk hA hlen hD (by rw [if_neg (by rw [c]; exact Bool.false_ne_true)])
  · intro D H' hD hk hA
    rw [fm_some] at hA
    walk_at "w"
    exact k H' (k1.trans0 hk)
def sp__law_number (a : AD) : Sp := fun vs H Q _ => ∃ (t : Int), vs = [.int t] ∧ Q (.bl true) H
theorem sc__law_number : FnScope ["_law_told"] ["_law_told"] (defScope s__law_number) := ⟨rfl, rfl, rfl, by decide +kernel, rfl, by decide +kernel, by decide +kernel⟩
theorem ok__law_number {P : Program} {w : World} {K : PySem.W.Frag} {mg : Str → Option Value} {base : Heap} {a : AD} (T : Txt P K mg a) : FnA P w K mg base 2 a.f__law_number ["_law_told"] (sp__law_number a) := by
  obtain ⟨fd, F, b⟩ := T.F__law_number
  refine FnA.of F sc__law_number b (fun vs H Q E h => by first | (obtain ⟨rfl, _⟩ := h; rfl) | (obtain ⟨_, rfl, _⟩ := h; rfl) | (obtain ⟨_, _, rfl, _⟩ := h; rfl) | (obtain ⟨_, _, _, rfl, _⟩ := h; rfl) | (obtain ⟨_, _, _, _, rfl, _⟩ := h; rfl) | (obtain ⟨_, _, _, _, _, rfl, _⟩ := h; rfl) | (obtain ⟨_, _, _, _, _, _, rfl, _⟩ := h; rfl) | (obtain ⟨_, _, _, _, _, _, _, rfl, _⟩ := h; rfl) | (obtain ⟨_, _, _, _, _, _, _, _, rfl, _⟩ := h; rfl) | (obtain ⟨_, _, _, _, _, _, _, _, _, rfl, _⟩ := h; rfl) | (obtain ⟨_, _, _, _, _, _, _, _, _, _, rfl, _⟩ := h; rfl) | (obtain ⟨_, _, _, _, _, _, _, _, _, _, _, rfl, _⟩ := h; rfl) | (obtain ⟨_, _, _, _, _, _, _, _, _, _, _, _, rfl, _⟩ := h; rfl) | (obtain ⟨_, _, _, _, _, _, _, _, _, _, _, _, _, rfl, _⟩ := h; rfl) | (obtain ⟨_, _, _, _, _, _, _, _, _, _, _, _, _, _, rfl, _⟩ := h; rfl) | (obtain ⟨_, _, _, _, _, _, _, _, _, _, _, _, _, _, _, rfl, _⟩ := h; rfl) | (obtain ⟨_, _, _, _, _, _, _, _, _, _, _, _, _, _, _, _, rfl, _⟩ := h; rfl) | (obtain ⟨_, _, _, _, _, _, _, _, _, _, _, _, _, _, _, _, _, rfl, _⟩ := h; rfl) | (obtain ⟨_, _, _, _, _, _, _, _, _, _, _, _, _, _, _, _, _, _, rfl, _⟩ := h; rfl) | (obtain ⟨_, _, _, _, _, _, _, _, _, _, _, _, _, _, _, _, _, _, _, rfl, _⟩ := h; rfl) | (obtain ⟨_, _, _, _, _, _, _, _, _, _, _, _, _, _, _, _, _, _, _, _, rfl, _⟩ := h; rfl) | (obtain ⟨_, _, _, _, _, _, _, _, _, _, _, _, _, _, _, _, _, _, _, _, _, rfl, _⟩ := h; rfl) | (obtain ⟨_, _, _, _, _, _, _, _, _, _, _, _, _, _, _, _, _, _, _, _, _, _, rfl, _⟩ := h; rfl) | (obtain ⟨_, _, _, _, _, _, _, _, _, _, _, _, _, _, _, _, _, _, _, _, _, _, _, rfl, _⟩ := h; rfl)) (fun cdv A outer s H vs Q E hr tk pz h => ?_)
  have hu := hr.units
  have hrH := L2H.roomH_of hr
  obtain ⟨t, rfl, k⟩ := h
  refine ⟨_, (pss_one (ps_ret (pe_and (pe_callB (call_isi) rfl T.b_isinstance (by decide +kernel) (pa_cons (pv 0) (pa_cons (pe_bltn (v := .ty "int") rfl T.b_int (by decide +kernel) rfl) pa_nil))) (pe_one (pe_not (pe_callB (call_isi) rfl T.b_isinstance (by decide +kernel) (pa_cons (pv 0) (pa_cons (pe_bltn (v := .ty "bool") rfl T.b_bool (by decide +kernel) rfl) pa_nil)))))))), ?_⟩
  show (_ : Ends → L2.St → Hp → Prop) _ [some _] _
  try dsimp only [L2H.cxH, cxOf]
  walk_at "w"
  exact k
theorem sch__law_number : FnScope ["_law_told"] ["_law_told"] (defScope s__law_number) := ⟨rfl, rfl, rfl, by decide +kernel, rfl, by decide +kernel, by decide +kernel⟩
theorem hk__law_number {P : Program} {w : World} {K : PySem.W.Frag} {mg : Str → Option Value} {base : Heap} {a : AD} (T : Txt P K mg a) : FnHA P w K mg base 2 a.f__law_number ["_law_told"] (sp__law_number a) := by
  obtain ⟨fd, F, b⟩ := T.F__law_number
  refine FnHA.of F sch__law_number b (fun vs H Q E h => by first | (obtain ⟨rfl, _⟩ := h; rfl) | (obtain ⟨_, rfl, _⟩ := h; rfl) | (obtain ⟨_, _, rfl, _⟩ := h; rfl) | (obtain ⟨_, _, _, rfl, _⟩ := h; rfl) | (obtain ⟨_, _, _, _, rfl, _⟩ := h; rfl) | (obtain ⟨_, _, _, _, _, rfl, _⟩ := h; rfl) | (obtain ⟨_, _, _, _, _, _, rfl, _⟩ := h; rfl) | (obtain ⟨_, _, _, _, _, _, _, rfl, _⟩ := h; rfl) | (obtain ⟨_, _, _, _, _, _, _, _, rfl, _⟩ := h; rfl) | (obtain ⟨_, _, _, _, _, _, _, _, _, rfl, _⟩ := h; rfl) | (obtain ⟨_, _, _, _, _, _, _, _, _, _, rfl, _⟩ := h; rfl) | (obtain ⟨_, _, _, _, _, _, _, _, _, _, _, rfl, _⟩ := h; rfl) | (obtain ⟨_, _, _, _, _, _, _, _, _, _, _, _, rfl, _⟩ := h; rfl) | (obtain ⟨_, _, _, _, _, _, _, _, _, _, _, _, _, rfl, _⟩ := h; rfl) | (obtain ⟨_, _, _, _, _, _, _, _, _, _, _, _, _, _, rfl, _⟩ := h; rfl) | (obtain ⟨_, _, _, _, _, _, _, _, _, _, _, _, _, _, _, rfl, _⟩ := h; rfl) | (obtain ⟨_, _, _, _, _, _, _, _, _, _, _, _, _, _, _, _, rfl, _⟩ := h; rfl) | (obtain ⟨_, _, _, _, _, _, _, _, _, _, _, _, _, _, _, _, _, rfl, _⟩ := h; rfl) | (obtain ⟨_, _, _, _, _, _, _, _, _, _, _, _, _, _, _, _, _, _, rfl, _⟩ := h; rfl) | (obtain ⟨_, _, _, _, _, _, _, _, _, _, _, _, _, _, _, _, _, _, _, rfl, _⟩ := h; rfl) | (obtain ⟨_, _, _, _, _, _, _, _, _, _, _, _, _, _, _, _, _, _, _, _, rfl, _⟩ := h; rfl) | (obtain ⟨_, _, _, _, _, _, _, _, _, _, _, _, _, _, _, _, _, _, _, _, _, rfl, _⟩ := h; rfl) | (obtain ⟨_, _, _, _, _, _, _, _, _, _, _, _, _, _, _, _, _, _, _, _, _, _, rfl, _⟩ := h; rfl) | (obtain ⟨_, _, _, _, _, _, _, _, _, _, _, _, _, _, _, _, _, _, _, _, _, _, _, rfl, _⟩ := h; rfl)) (fun cdv A outer s H vs Q E pin hot1 hrH hot pz h => ?_)
  have hu := roomH_units hrH
  obtain ⟨t, rfl, k⟩ := h
  refine ⟨_, (pss_one (ps_ret (pe_and (pe_callB (call_isi) rfl T.b_isinstance (by decide +kernel) (pa_cons (pv 0) (pa_cons (pe_bltn (v := .ty "int") rfl T.b_int (by decide +kernel) rfl) pa_nil))) (pe_one (pe_not (pe_callB (call_isi) rfl T.b_isinstance (by decide +kernel) (pa_cons (pv 0) (pa_cons (pe_bltn (v := .ty "bool") rfl T.b_bool (by decide +kernel) rfl) pa_nil)))))))), ?_⟩
  show (_ : Ends → L2.St → Hp → Prop) _ [some _] _
  try dsimp only [L2H.cxH, cxOf]
  walk_at "w"
  exact k
def sp__law_numbers (a : AD) : Sp := fun vs H Q _ => ∃ (p : Addr) (us : List Int), vs = [.ref p] ∧ H p = some (.lst (us.map V.int)) ∧ us.length ≤ 1000 ∧ ∀ H', Kp [] H H' → Q (.bl true) H'
theorem sc__law_numbers : FnScope ["_law_told", "_law_one"] ["_law_told"] (defScope s__law_numbers) := ⟨rfl, rfl, rfl, by decide +kernel, rfl, by decide +kernel, by decide +kernel⟩
theorem ok__law_numbers {P : Program} {w : World} {K : PySem.W.Frag} {mg : Str → Option Value} {base : Heap} {a : AD} (T : Txt P K mg a) (G__law_number : FnA P w K mg base 2 a.f__law_number ["_law_told"] (sp__law_number a)) : FnA P w K mg base 3 a.f__law_numbers ["_law_told"] (sp__law_numbers a) := by
  obtain ⟨fd, F, b⟩ := T.F__law_numbers
  refine FnA.of F sc__law_numbers b (fun vs H Q E h => by first | (obtain ⟨rfl, _⟩ := h; rfl) | (obtain ⟨_, rfl, _⟩ := h; rfl) | (obtain ⟨_, _, rfl, _⟩ := h; rfl) | (obtain ⟨_, _, _, rfl, _⟩ := h; rfl) | (obtain ⟨_, _, _, _, rfl, _⟩ := h; rfl) | (obtain ⟨_, _, _, _, _, rfl, _⟩ := h; rfl) | (obtain ⟨_, _, _, _, _, _, rfl, _⟩ := h; rfl) | (obtain ⟨_, _, _, _, _, _, _, rfl, _⟩ := h; rfl) | (obtain ⟨_, _, _, _, _, _, _, _, rfl, _⟩ := h; rfl) | (obtain ⟨_, _, _, _, _, _, _, _, _, rfl, _⟩ := h; rfl) | (obtain ⟨_, _, _, _, _, _, _, _, _, _, rfl, _⟩ := h; rfl) | (obtain ⟨_, _, _, _, _, _, _, _, _, _, _, rfl, _⟩ := h; rfl) | (obtain ⟨_, _, _, _, _, _, _, _, _, _, _, _, rfl, _⟩ := h; rfl) | (obtain ⟨_, _, _, _, _, _, _, _, _, _, _, _, _, rfl, _⟩ := h; rfl) | (obtain ⟨_, _, _, _, _, _, _, _, _, _, _, _, _, _, rfl, _⟩ := h; rfl) | (obtain ⟨_, _, _, _, _, _, _, _, _, _, _, _, _, _, _, rfl, _⟩ := h; rfl) | (obtain ⟨_, _, _, _, _, _, _, _, _, _, _, _, _, _, _, _, rfl, _⟩ := h; rfl) | (obtain ⟨_, _, _, _, _, _, _, _, _, _, _, _, _, _, _, _, _, rfl, _⟩ := h; rfl) | (obtain ⟨_, _, _, _, _, _, _, _, _, _, _, _, _, _, _, _, _, _, rfl, _⟩ := h; rfl) | (obtain ⟨_, _, _, _, _, _, _, _, _, _, _, _, _, _, _, _, _, _, _, rfl, _⟩ := h; rfl) | (obtain ⟨_, _, _, _, _, _, _, _, _, _, _, _, _, _, _, _, _, _, _, _, rfl, _⟩ := h; rfl) | (obtain ⟨_, _, _, _, _, _, _, _, _, _, _, _, _, _, _, _, _, _, _, _, _, rfl, _⟩ := h; rfl) | (obtain ⟨_, _, _, _, _, _, _, _, _, _, _, _, _, _, _, _, _, _, _, _, _, _, rfl, _⟩ := h; rfl) | (obtain ⟨_, _, _, _, _, _, _, _, _, _, _, _, _, _, _, _, _, _, _, _, _, _, _, rfl, _⟩ := h; rfl)) (fun cdv A outer s H vs Q E hr tk pz h => ?_)
  have hu := hr.units
  have hrH := L2H.roomH_of hr
  obtain ⟨p, us, rfl, hp, hl, k⟩ := h
  refine ⟨_, (pss_one (ps_ret (pe_and (pe_callB (call_isi) rfl T.b_isinstance (by decide +kernel) (pa_cons (pv 0) (pa_cons (pe_bltn (v := .ty "list") rfl T.b_list (by decide +kernel) rfl) pa_nil))) (pe_one (pe_cmpR (o_eq hu) (pe_lc (own := [("_law_one", 1)]) (g := (gName 1)) rfl sc__law_numbers.nd (pi_list (pv 0)) (blkOk_by (own := [("_law_one", 1)]) (N := ["_law_told", "_law_one"]) (sc := defScope s__law_numbers) (by decide +kernel)) (fun _ _ _ _ _ => (pg_name (i := 1) sc__law_numbers.nd rfl (Or.inl rfl))) (fun _ _ _ _ _ => (pts_one (pt_not (show PT _ _ (cTru K _) from (pt_tru (pe_callA G__law_number (Room.mono hr (by decide)) T.n__law_number takes0 (pa_cons (pv 1) pa_nil))))))) (fun _ _ _ _ _ => (pv 1))) (pe_lst pa_nil) (nomark _)))))), ?_⟩
  show (_ : Ends → L2.St → Hp → Prop) _ [some _, none] _
  try dsimp only [L2H.cxH, cxOf]
  walk_at "w"
  refine w_lcM (f := V.int) (f' := V.int) (fun _ => (none : Option Int)) hp (by rw [sizeLine_eq]; omega) ?_ ?_
  · intro D i u acc H' hD hu hk hA hlen
    walk_at "w"
    refine ⟨rfl, ?_⟩
    walk_at "w"
    refine ⟨u, rfl, ?_⟩
    walk_at "w"
    exact w_drop hk hA rfl
  · intro D H' hD hk hA
    have e : us.filterMap (fun _ => (none : Option Int)) = [] := by induction us <;> simp_all
    rw [e] at hA
    walk_at "w"
    intro t ht
    refine w_eqLI' (ns := []) (ms := []) (upd_new ht hA) upd_same ?_
    exact k _ (hk.new ht)

/-! ### what an operation does to the states -/
/-- the state that the gap left of the node comes to, where it may change -/
def endA (R L : List Int) (o : Int) : Option Str :=
  let lo := L.getD o.natAbs default
  if lo = (o.natAbs : Int) - 1 ∧ o > 0 then some "joined" else if lo = (o.natAbs : Int) - 1 then some "right" else if stateOf R L lo = ("joined" : Str) then some "right" else if stateOf R L lo = ("left" : Str) then some "lost" else none
def endB (R L : List Int) (o : Int) : Option Str :=
  let hi := R.getD o.natAbs default
  if hi = (o.natAbs : Int) + 1 ∧ o > 0 then some "joined" else if hi = (o.natAbs : Int) + 1 then some "left" else if stateOf R L (hi - 1) = ("joined" : Str) then some "left" else if stateOf R L (hi - 1) = ("right" : Str) then some "lost" else none
theorem getD_set {us : List Int} {i j : Nat} {u : Int} (h : i < us.length) : (us.set i u).getD j default = if i = j then u else us.getD j default := by
  by_cases z : i = j
  · subst z
    rw [if_pos rfl, getD_set_eq h]
  · rw [if_neg z, getD_set_ne z]
/-- the two links that a gap's state is made of, behind an operation -/
theorem ap_R {n : Int} {R L : List Int} {F : List Bool} (w : WF n R L F) {o : Int} (h : IsOp n o) (g : Int) (g0 : 0 ≤ g) : (apR L R o).getD g.toNat default = if g = L.getD o.natAbs default then (if o < 0 then R.getD o.natAbs default else (o.natAbs : Int)) else R.getD g.toNat default := by
  have h1 := h.1
  have h2 := h.2
  have q := w.at (v := o.natAbs) (by omega) h2
  have hR := w.hR
  unfold apR
  rw [getD_set (by omega)]
  by_cases z : g = L.getD o.natAbs default
  · rw [if_pos (by omega), if_pos z]
  · rw [if_neg (by omega), if_neg z]
theorem ap_L {n : Int} {R L : List Int} {F : List Bool} (w : WF n R L F) {o : Int} (h : IsOp n o) (g : Int) (g0 : 0 ≤ g) : (apL L R o).getD (g + 1).toNat default = if g + 1 = R.getD o.natAbs default then (if o < 0 then L.getD o.natAbs default else (o.natAbs : Int)) else L.getD (g + 1).toNat default := by
  have h1 := h.1
  have h2 := h.2
  have q := w.at (v := o.natAbs) (by omega) h2
  have hL := w.hL
  unfold apL
  rw [getD_set (by omega)]
  by_cases z : g + 1 = R.getD o.natAbs default
  · rw [if_pos (by omega), if_pos z]
  · rw [if_neg (by omega), if_neg z]
/-- another gap keeps its state -/
theorem ap_other {n : Int} {R L : List Int} {F : List Bool} (w : WF n R L F) {o : Int} (h : IsOp n o) {g : Int} (g0 : 0 ≤ g) (z1 : g ≠ L.getD o.natAbs default) (z2 : g ≠ R.getD o.natAbs default - 1) : stateOf (apR L R o) (apL L R o) g = stateOf R L g := by
  unfold stateOf
  rw [ap_R w h g g0, ap_L w h g g0, if_neg z1, if_neg (show ¬g + 1 = R.getD o.natAbs default by omega)]
/-- the left of the two gaps -/
theorem ap_low {n : Int} {R L : List Int} {F : List Bool} (w : WF n R L F) {o : Int} (h : IsOp n o) : stateOf (apR L R o) (apL L R o) (L.getD o.natAbs default) = (endA R L o).getD (stateOf R L (L.getD o.natAbs default)) := by
  have h1 := h.1
  have h2 := h.2
  have q := w.at (v := o.natAbs) (by omega) h2
  have eR := ap_R w h (L.getD o.natAbs default) q.1
  have eL := ap_L w h (L.getD o.natAbs default) q.1
  rw [if_pos rfl] at eR
  rw [if_neg (by omega)] at eL
  have hv : L.getD o.natAbs default = (o.natAbs : Int) - 1 → (L.getD o.natAbs default + 1).toNat = o.natAbs := fun z => by omega
  unfold endA
  dsimp only
  generalize hlo : L.getD o.natAbs default = lo at q eR eL hv ⊢
  generalize hhi : R.getD o.natAbs default = hi at q eR eL ⊢
  by_cases c1 : lo = (o.natAbs : Int) - 1
  · have e3 := hv c1
    have e4 : L.getD (lo + 1).toNat default = lo := by rw [e3]; exact hlo
    rw [e4] at eL
    by_cases c2 : o > 0
    · rw [if_pos ⟨c1, c2⟩]
      unfold stateOf
      rw [eR, eL, if_neg (show ¬o < 0 by omega), if_pos (show (o.natAbs : Int) = lo + 1 by omega), if_pos rfl]
      rfl
    · rw [if_neg (fun z => c2 z.2), if_pos c1]
      unfold stateOf
      rw [eR, eL, if_pos (show o < 0 by omega), if_neg (show ¬hi = lo + 1 by omega), if_pos rfl]
      rfl
  · rw [if_neg (fun z => c1 z.1), if_neg c1]
    have e5 : ¬(if o < 0 then hi else (o.natAbs : Int)) = lo + 1 := by split <;> omega
    have e6 : stateOf (apR L R o) (apL L R o) lo = if L.getD (lo + 1).toNat default = lo then ("right" : Str) else "lost" := by
      unfold stateOf
      rw [eR, if_neg e5, eL]
    rw [e6]
    unfold stateOf
    by_cases d1 : R.getD lo.toNat default = lo + 1
    · rw [if_pos d1]
      by_cases d2 : L.getD (lo + 1).toNat default = lo
      · rw [if_pos d2, if_pos d2, if_pos rfl]; rfl
      · rw [if_neg d2, if_neg d2, if_neg (by decide), if_pos rfl]; rfl
    · rw [if_neg d1]
      by_cases d2 : L.getD (lo + 1).toNat default = lo
      · rw [show (if L.getD (lo + 1).toNat default = lo then ("right" : Str) else "lost") = "right" from if_pos d2, if_neg (by decide), if_neg (by decide)]; rfl
      · rw [show (if L.getD (lo + 1).toNat default = lo then ("right" : Str) else "lost") = "lost" from if_neg d2, if_neg (by decide), if_neg (by decide)]; rfl
/-- the right of the two gaps -/
theorem ap_high {n : Int} {R L : List Int} {F : List Bool} (w : WF n R L F) {o : Int} (h : IsOp n o) : stateOf (apR L R o) (apL L R o) (R.getD o.natAbs default - 1) = (endB R L o).getD (stateOf R L (R.getD o.natAbs default - 1)) := by
  have h1 := h.1
  have h2 := h.2
  have q := w.at (v := o.natAbs) (by omega) h2
  have eR := ap_R w h (R.getD o.natAbs default - 1) (by omega)
  have eL := ap_L w h (R.getD o.natAbs default - 1) (by omega)
  rw [if_neg (by omega)] at eR
  rw [if_pos (by omega)] at eL
  unfold endB
  dsimp only
  have hv : R.getD o.natAbs default = (o.natAbs : Int) + 1 → R.getD (R.getD o.natAbs default - 1).toNat default = R.getD o.natAbs default := fun z => by rw [show (R.getD o.natAbs default - 1).toNat = o.natAbs by omega]
  generalize hlo : L.getD o.natAbs default = lo at q eR eL ⊢
  generalize hhi : R.getD o.natAbs default = hi at q eR eL hv ⊢
  rw [show hi - 1 + 1 = hi by omega] at eL
  by_cases c1 : hi = (o.natAbs : Int) + 1
  · have e4 : R.getD (hi - 1).toNat default = hi := hv c1
    rw [e4] at eR
    by_cases c2 : o > 0
    · rw [if_pos ⟨c1, c2⟩]
      unfold stateOf
      rw [eR, show hi - 1 + 1 = hi by omega, if_pos rfl, eL, if_neg (show ¬o < 0 by omega), if_pos (show (o.natAbs : Int) = hi - 1 by omega)]
      rfl
    · rw [if_neg (fun z => c2 z.2), if_pos c1]
      unfold stateOf
      rw [eR, show hi - 1 + 1 = hi by omega, if_pos rfl, eL, if_pos (show o < 0 by omega), if_neg (show ¬lo = hi - 1 by omega)]
      rfl
  · rw [if_neg (fun z => c1 z.1), if_neg c1]
    have e5 : ¬(if o < 0 then lo else (o.natAbs : Int)) = hi - 1 := by split <;> omega
    have e6 : stateOf (apR L R o) (apL L R o) (hi - 1) = if R.getD (hi - 1).toNat default = hi then ("left" : Str) else "lost" := by
      unfold stateOf
      rw [show hi - 1 + 1 = hi by omega, eL, if_neg e5, if_neg e5, eR]
    rw [e6]
    unfold stateOf
    rw [show hi - 1 + 1 = hi by omega]
    by_cases d1 : R.getD (hi - 1).toNat default = hi
    · rw [if_pos d1, if_pos d1]
      by_cases d2 : L.getD hi.toNat default = hi - 1
      · rw [if_pos d2, if_pos rfl]; rfl
      · rw [if_neg d2, if_neg (by decide), if_neg (by decide)]; rfl
    · rw [if_neg d1, if_neg d1]
      by_cases d2 : L.getD hi.toNat default = hi - 1
      · rw [if_pos d2, if_neg (by decide), if_pos rfl]; rfl
      · rw [if_neg d2, if_neg (by decide), if_neg (by decide)]; rfl

/-! ### relinking to the end -/
/-- the standings that come of one relink of a node that is out -/
def relF (us : List Int) (s : St3) : List St3 := us.filterMap fun v => if s.2.2.getD v.toNat default = true then some (stS s (opF s v)) else none
def rowsF (us : List Int) (s : St3) : Nat → List St3
  | 0 => [s]
  | t + 1 => (rowsF us s t).flatMap (relF us)
theorem rows_wf {n : Int} {us : List Int} {s : St3} (W : WFs n s) (hu : ∀ v ∈ us, 1 ≤ v ∧ v ≤ n) : ∀ t, ∀ s' ∈ rowsF us s t, WFs n s'
  | 0, s', h => by
    rw [List.mem_singleton.mp h]; exact W
  | t + 1, s', h => by
    rw [rowsF, List.mem_flatMap] at h
    obtain ⟨s1, h1, h2⟩ := h
    unfold relF at h2
    obtain ⟨v, hv, e⟩ := List.mem_filterMap.mp h2
    split at e
    · cases e
      exact WF.ap (rows_wf W hu t s1 h1) (opF_ok (s := s1) (hu v hv).1 (hu v hv).2).1
    · cases e
/-- what a relink does to the links and flags -/
theorem rel_R {n : Int} {s : St3} (W : WFs n s) {v : Int} (v1 : 1 ≤ v) (v2 : v ≤ n) (c : s.2.2.getD v.toNat default = true) (g : Int) (g0 : 0 ≤ g) : (stS s (opF s v)).1.getD g.toNat default = if g = s.2.1.getD v.toNat default then v else s.1.getD g.toNat default := by
  have hO := (opF_ok (s := s) v1 v2)
  have h := ap_R W hO.1 g g0
  rw [hO.2.1] at h
  have e : opF s v = v := by unfold opF; rw [if_pos c]
  show (apR s.2.1 s.1 (opF s v)).getD g.toNat default = _
  rw [h, e, if_neg (show ¬v < 0 by omega), show ((v.toNat : Nat) : Int) = v by omega]
theorem rel_L {n : Int} {s : St3} (W : WFs n s) {v : Int} (v1 : 1 ≤ v) (v2 : v ≤ n) (c : s.2.2.getD v.toNat default = true) (g : Int) (g0 : 0 ≤ g) : (stS s (opF s v)).2.1.getD (g + 1).toNat default = if g + 1 = s.1.getD v.toNat default then v else s.2.1.getD (g + 1).toNat default := by
  have hO := (opF_ok (s := s) v1 v2)
  have h := ap_L W hO.1 g g0
  rw [hO.2.1] at h
  have e : opF s v = v := by unfold opF; rw [if_pos c]
  show (apL s.2.1 s.1 (opF s v)).getD (g + 1).toNat default = _
  rw [h, e, if_neg (show ¬v < 0 by omega), show ((v.toNat : Nat) : Int) = v by omega]
theorem rel_F {n : Int} {s : St3} (W : WFs n s) {v : Int} (v1 : 1 ≤ v) (v2 : v ≤ n) (c : s.2.2.getD v.toNat default = true) (u : Nat) : (stS s (opF s v)).2.2.getD u default = if v.toNat = u then false else s.2.2.getD u default := by
  have hF := WF.hF W
  have hO := (opF_ok (s := s) v1 v2)
  have e : opF s v = v := by unfold opF; rw [if_pos c]
  show (s.2.2.set (opF s v).natAbs (decide (opF s v < 0))).getD u default = _
  rw [e, show v.natAbs = v.toNat by omega, show decide (v < 0) = false by simp; omega]
  by_cases z : v.toNat = u
  · rw [if_pos z, z, getD_set_eq (by omega)]
  · rw [if_neg z, getD_set_ne z]
/-- no gap is lost, and no node that is in is due -/
def finP (n : Int) (s : St3) : Prop := (∀ g : Int, 0 ≤ g → g ≤ n → stateOf s.1 s.2.1 g ≠ ("lost" : Str)) ∧ ∀ v : Int, 1 ≤ v → v ≤ n → dueP s v → s.2.2.getD v.toNat default = true
/-- backwards: what a relink leaves unfinishable -/
theorem fin_back {n : Int} {s : St3} (W : WFs n s) {v : Int} (v1 : 1 ≤ v) (v2 : v ≤ n) (c : s.2.2.getD v.toNat default = true) (h : finP n (stS s (opF s v))) : finP n s := by
  have q := WF.at W (v := v.toNat) (by omega) (by omega)
  rw [show ((v.toNat : Nat) : Int) = v by omega] at q
  have eR := fun g g0 => rel_R W v1 v2 c g g0
  have eL := fun g g0 => rel_L W v1 v2 c g g0
  have eF := fun u => rel_F W v1 v2 c u
  generalize hlo : s.2.1.getD v.toNat default = lo at q eR
  generalize hhi : s.1.getD v.toNat default = hi at q eL
  generalize stS s (opF s v) = s' at h eR eL eF
  refine ⟨fun g g0 g1 z => ?_, fun u u1 u2 hd => ?_⟩
  · obtain ⟨z1, z2⟩ := state_lost.mp z
    refine h.1 g g0 g1 (state_lost.mpr ⟨?_, ?_⟩)
    · rw [eR g g0]
      split
      · rename_i e
        intro e2
        refine z2 ?_
        rw [show (g + 1).toNat = v.toNat by omega, hlo, e]
      · exact z1
    · rw [eL g g0]
      split
      · rename_i e
        intro e2
        refine z1 ?_
        rw [show g.toNat = v.toNat by omega, hhi, e]
      · exact z2
  · cases cu : s.2.2.getD u.toNat default with
    | true => rfl
    | false =>
      exfalso
      have uv : u ≠ v := by rintro rfl; rw [c] at cu; cases cu
      have hu' : s'.2.2.getD u.toNat default = false := by
        rw [eF, if_neg (by omega)]; exact cu
      have nd : ¬dueP s' u := fun z => by
        have := h.2 u u1 u2 z
        rw [hu'] at this; cases this
      rcases hd with z | z | z
      · rw [cu] at z; cases z
      · obtain ⟨z1, z2⟩ := state_left.mp z
        have n1 : stateOf s'.1 s'.2.1 u ≠ ("left" : Str) := fun y => nd (.inr (.inl y))
        have n2 := h.1 u (by omega) u2
        have l2 : s'.2.1.getD (u + 1).toNat default ≠ u := by
          rw [eL u (by omega)]
          split
          · omega
          · exact z2
        by_cases r : s'.1.getD u.toNat default = u + 1
        · exact n1 (state_left.mpr ⟨r, l2⟩)
        · exact n2 (state_lost.mpr ⟨r, l2⟩)
      · obtain ⟨z1, z2⟩ := state_right.mp z
        have n1 : stateOf s'.1 s'.2.1 (u - 1) ≠ ("right" : Str) := fun y => nd (.inr (.inr y))
        have n2 := h.1 (u - 1) (by omega) (by omega)
        have r2 : s'.1.getD (u - 1).toNat default ≠ u - 1 + 1 := by
          rw [eR (u - 1) (by omega)]
          split
          · omega
          · exact z1
        by_cases l : s'.2.1.getD (u - 1 + 1).toNat default = u - 1
        · exact n1 (state_right.mpr ⟨r2, l⟩)
        · exact n2 (state_lost.mpr ⟨r2, l⟩)
theorem whole_fin {n : Int} {s : St3} (W : WFs n s) (h : wholeS n s) : finP n s := by
  refine ⟨fun g g0 g1 z => ?_, fun v v1 v2 hd => ?_⟩
  · rw [h.2 g g0 g1] at z; exact absurd z (by decide)
  · rcases hd with z | z | z
    · exact z
    · rw [h.2 v (by omega) v2] at z; exact absurd z (by decide)
    · rw [h.2 (v - 1) (by omega) (by omega)] at z; exact absurd z (by decide)
theorem rows_fin {n : Int} {us : List Int} {s : St3} (W : WFs n s) (hu : ∀ v ∈ us, 1 ≤ v ∧ v ≤ n) : ∀ t, (∃ s' ∈ rowsF us s t, finP n s') → finP n s
  | 0, ⟨s', h, hf⟩ => by
    rw [List.mem_singleton.mp h] at hf; exact hf
  | t + 1, ⟨s', h, hf⟩ => by
    rw [rowsF, List.mem_flatMap] at h
    obtain ⟨s1, h1, h2⟩ := h
    unfold relF at h2
    obtain ⟨v, hv, e⟩ := List.mem_filterMap.mp h2
    split at e
    · rename_i c
      cases e
      exact rows_fin W hu t ⟨s1, h1, fin_back (rows_wf W hu t s1 h1) (hu v hv).1 (hu v hv).2 c hf⟩
    · cases e
/-- a node that is out and whose two links are true -/
theorem good_down {n : Int} {s : St3} (W : WFs n s) (h : finP n s) : ∀ m : Nat, 1 ≤ m → (m : Int) ≤ n → s.2.2.getD m default = true → s.1.getD m default = (m : Int) + 1 → ∃ v : Int, 1 ≤ v ∧ v ≤ n ∧ s.2.2.getD v.toNat default = true ∧ s.2.1.getD v.toNat default = v - 1 ∧ s.1.getD v.toNat default = v + 1
  | 0, h1, _, _, _ => by omega
  | m + 1, h1, h2, hf, hr => by
    by_cases c : s.2.1.getD (m + 1) default = (m : Int)
    · exact ⟨((m + 1 : Nat) : Int), by omega, h2, by rw [Int.toNat_natCast]; exact hf, by rw [Int.toNat_natCast, c]; omega, by rw [Int.toNat_natCast, hr]⟩
    · have q := WF.at W (v := m + 1) h1 h2
      have hm : 1 ≤ m := by
        rcases Nat.eq_zero_or_pos m with z | z
        · exfalso
          subst z
          exact c (by have := q.1; have := q.2.1; omega)
        · exact z
      have hl := h.1 (m : Int) (by omega) (by omega)
      have hr2 : s.1.getD m default = (m : Int) + 1 := by
        refine Classical.byContradiction fun z => hl (state_lost.mpr ⟨by rw [Int.toNat_natCast]; exact z, by rw [show ((m : Int) + 1).toNat = m + 1 by omega]; exact c⟩)
      have hd := h.2 (m : Int) (by omega) (by omega) (.inr (.inl (state_left.mpr ⟨by rw [Int.toNat_natCast]; exact hr2, by rw [show ((m : Int) + 1).toNat = m + 1 by omega]; exact c⟩)))
      rw [Int.toNat_natCast] at hd
      exact good_down W h m hm (by omega) hd hr2
theorem good_up {n : Int} {s : St3} (W : WFs n s) (h : finP n s) : ∀ (k m : Nat), (n - (m : Int)).toNat = k → 1 ≤ m → (m : Int) ≤ n → s.2.2.getD m default = true → s.2.1.getD m default = (m : Int) - 1 → ∃ v : Int, 1 ≤ v ∧ v ≤ n ∧ s.2.2.getD v.toNat default = true ∧ s.2.1.getD v.toNat default = v - 1 ∧ s.1.getD v.toNat default = v + 1 := by
  intro k
  induction k with
  | zero =>
    intro m hk h1 h2 hf hl
    have q := WF.at W (v := m) h1 h2
    exact ⟨(m : Int), by omega, h2, by rw [Int.toNat_natCast]; exact hf, by rw [Int.toNat_natCast]; exact hl, by rw [Int.toNat_natCast]; omega⟩
  | succ k ih =>
    intro m hk h1 h2 hf hl
    by_cases c : s.1.getD m default = (m : Int) + 1
    · exact ⟨(m : Int), by omega, h2, by rw [Int.toNat_natCast]; exact hf, by rw [Int.toNat_natCast]; exact hl, by rw [Int.toNat_natCast]; exact c⟩
    · have hls := h.1 (m : Int) (by omega) h2
      have hl2 : s.2.1.getD (m + 1) default = (m : Int) := by
        refine Classical.byContradiction fun z => hls (state_lost.mpr ⟨by rw [Int.toNat_natCast]; exact c, by rw [show ((m : Int) + 1).toNat = m + 1 by omega]; exact z⟩)
      have hd := h.2 ((m + 1 : Nat) : Int) (by omega) (by omega) (.inr (.inr (state_right.mpr ⟨by rw [show ((m + 1 : Nat) : Int) - 1 = (m : Int) by omega, Int.toNat_natCast]; exact c, by rw [show ((m + 1 : Nat) : Int) - 1 = (m : Int) by omega, show ((m : Int) + 1).toNat = m + 1 by omega]; exact hl2⟩)))
      rw [Int.toNat_natCast] at hd
      exact ih (m + 1) (by omega) (by omega) (by omega) hd (by omega)
theorem good_ex {n : Int} {s : St3} (W : WFs n s) (h : finP n s) {m : Nat} (h1 : 1 ≤ m) (h2 : (m : Int) ≤ n) (hf : s.2.2.getD m default = true) : ∃ v : Int, 1 ≤ v ∧ v ≤ n ∧ s.2.2.getD v.toNat default = true ∧ s.2.1.getD v.toNat default = v - 1 ∧ s.1.getD v.toNat default = v + 1 := by
  have q := WF.at W (v := m) h1 h2
  by_cases c : s.2.1.getD m default = (m : Int) - 1
  · exact good_up W h _ m rfl h1 h2 hf c
  · have hm : 2 ≤ m := by omega
    have hl := h.1 ((m : Int) - 1) (by omega) (by omega)
    have e1 : ((m : Int) - 1).toNat = m - 1 := by omega
    have e2 : ((m : Int) - 1 + 1).toNat = m := by omega
    have hr2 : s.1.getD (m - 1) default = (m : Int) - 1 + 1 := by
      refine Classical.byContradiction fun z => hl (state_lost.mpr ⟨by rw [e1]; exact z, by rw [e2]; exact c⟩)
    have hd := h.2 ((m : Int) - 1) (by omega) (by omega) (.inr (.inl (state_left.mpr ⟨by rw [e1]; exact hr2, by rw [e2]; exact c⟩)))
    rw [e1] at hd
    exact good_down W h (m - 1) (by omega) (by omega) hd (by omega)
/-- relinking such a node keeps the standing finishable -/
theorem fin_keep {n : Int} {s : St3} (W : WFs n s) (h : finP n s) {v : Int} (v1 : 1 ≤ v) (v2 : v ≤ n) (c : s.2.2.getD v.toNat default = true) (hl : s.2.1.getD v.toNat default = v - 1) (hr : s.1.getD v.toNat default = v + 1) : finP n (stS s (opF s v)) := by
  have eR := fun g g0 => rel_R W v1 v2 c g g0
  have eL := fun g g0 => rel_L W v1 v2 c g g0
  have eF := fun u => rel_F W v1 v2 c u
  rw [hl] at eR
  rw [hr] at eL
  generalize stS s (opF s v) = s' at eR eL eF ⊢
  have jA : stateOf s'.1 s'.2.1 (v - 1) = ("joined" : Str) := by
    refine state_joined.mpr ⟨by rw [eR (v - 1) (by omega), if_pos rfl]; omega, ?_⟩
    rw [eL (v - 1) (by omega), if_neg (by omega), show v - 1 + 1 = v by omega]; exact hl
  have jB : stateOf s'.1 s'.2.1 v = ("joined" : Str) := by
    refine state_joined.mpr ⟨?_, by rw [eL v (by omega), if_pos rfl]⟩
    rw [eR v (by omega), if_neg (by omega)]; exact hr
  have oth : ∀ g : Int, 0 ≤ g → g ≠ v - 1 → g ≠ v → stateOf s'.1 s'.2.1 g = stateOf s.1 s.2.1 g := by
    intro g g0 z1 z2
    unfold stateOf
    rw [eR g g0, eL g g0, if_neg z1, if_neg (show ¬g + 1 = v + 1 by omega)]
  refine ⟨fun g g0 g1 z => ?_, fun u u1 u2 hd => ?_⟩
  · by_cases z1 : g = v - 1
    · rw [z1, jA] at z; exact absurd z (by decide)
    · by_cases z2 : g = v
      · rw [z2, jB] at z; exact absurd z (by decide)
      · rw [oth g g0 z1 z2] at z; exact h.1 g g0 g1 z
  · by_cases uv : u = v
    · exfalso
      subst uv
      rcases hd with z | z | z
      · rw [eF, if_pos rfl] at z; cases z
      · rw [jB] at z; exact absurd z (by decide)
      · rw [jA] at z; exact absurd z (by decide)
    · rw [eF, if_neg (by omega)]
      refine h.2 u u1 u2 ?_
      rcases hd with z | z | z
      · rw [eF, if_neg (by omega)] at z
        exact .inl z
      · refine .inr (.inl ?_)
        by_cases z1 : u = v - 1
        · rw [z1, jA] at z; exact absurd z (by decide)
        · rwa [oth u (by omega) z1 uv] at z
      · refine .inr (.inr ?_)
        by_cases z2 : u - 1 = v
        · rw [z2, jB] at z; exact absurd z (by decide)
        · rwa [oth (u - 1) (by omega) (by omega) z2] at z
theorem fin_whole {n : Int} {s : St3} (W : WFs n s) (h : finP n s) (hin : ∀ v : Nat, 1 ≤ v → (v : Int) ≤ n → s.2.2.getD v default = false) : wholeS n s := by
  refine ⟨hin, fun g g0 g1 => ?_⟩
  have hl := h.1 g g0 g1
  by_cases c1 : s.1.getD g.toNat default = g + 1
  · by_cases c2 : s.2.1.getD (g + 1).toNat default = g
    · exact state_joined.mpr ⟨c1, c2⟩
    · exfalso
      have st := state_left.mpr (show s.1.getD g.toNat default = g + 1 ∧ ¬s.2.1.getD (g + 1).toNat default = g from ⟨c1, c2⟩)
      by_cases z : g = 0
      · subst z
        by_cases z2 : (1 : Int) ≤ n
        · have q := WF.at W (v := 1) (by omega) (by omega)
          exact c2 (by rw [show ((0 : Int) + 1).toNat = 1 from rfl]; omega)
        · have e : n = 0 := by omega
          have hlast := WF.l W 1 (s.2.1.getD 1 default) (by omega) (by
            have := WF.hL W
            rw [List.getD_eq_getElem?_getD, List.getElem?_eq_getElem (by omega)]; rfl)
          exact c2 (by rw [show ((0 : Int) + 1).toNat = 1 from rfl]; omega)
      · have := h.2 g (by omega) g1 (.inr (.inl st))
        rw [hin g.toNat (by omega) (by omega)] at this; cases this
  · by_cases c2 : s.2.1.getD (g + 1).toNat default = g
    · exfalso
      have st := state_right.mpr (show ¬s.1.getD g.toNat default = g + 1 ∧ s.2.1.getD (g + 1).toNat default = g from ⟨c1, c2⟩)
      by_cases z : g = n
      · subst z
        have hlast := WF.r W g.toNat (s.1.getD g.toNat default) (by
          have := WF.hR W
          rw [List.getD_eq_getElem?_getD, List.getElem?_eq_getElem (by omega)]; rfl)
        exact c1 (by omega)
      · have := h.2 (g + 1) (by omega) (by omega) (.inr (.inr (by rw [show g + 1 - 1 = g by omega]; exact st)))
        rw [hin (g + 1).toNat (by omega) (by omega)] at this; cases this
    · exact absurd (state_lost.mpr ⟨c1, c2⟩) hl
/-! ### lowering -/
/-- what a node adds to the debt -/
def shV (s : St3) (v : Int) : Int := if dueP s v then shareF s v else 0
def noLost (n : Int) (s : St3) : Prop := ∀ g : Int, 0 ≤ g → g ≤ n → stateOf s.1 s.2.1 g ≠ ("lost" : Str)
def lowP (s : St3) (v : Int) : Prop := dueP s v ∧ (s.2.1.getD v.toNat default ≠ v - 1 → s.1.getD (s.2.1.getD v.toNat default).toNat default = s.2.1.getD v.toNat default + 1 → stateOf s.1 s.2.1 (s.2.1.getD v.toNat default) = ("joined" : Str) ∧ dueP s (s.2.1.getD v.toNat default + 1)) ∧
  (s.1.getD v.toNat default ≠ v + 1 → s.2.1.getD (s.1.getD v.toNat default).toNat default = s.1.getD v.toNat default - 1 → stateOf s.1 s.2.1 (s.1.getD v.toNat default - 1) = ("joined" : Str) ∧ dueP s (s.1.getD v.toNat default - 1))
/-- a due node whose two links are true lowers the debt -/
theorem low_good {s : St3} {v : Int} (h : dueP s v) (hl : s.2.1.getD v.toNat default = v - 1) (hr : s.1.getD v.toNat default = v + 1) : lowP s v :=
  ⟨h, fun z => absurd hl z, fun z => absurd hr z⟩
theorem low_down {n : Int} {s : St3} (W : WFs n s) (h : noLost n s) : ∀ m : Nat, 1 ≤ m → (m : Int) ≤ n → dueP s (m : Int) → s.1.getD m default = (m : Int) + 1 → ∃ v : Int, 1 ≤ v ∧ v ≤ n ∧ lowP s v
  | 0, h1, _, _, _ => by omega
  | m + 1, h1, h2, hd, hr => by
    by_cases c : s.2.1.getD (m + 1) default = (m : Int)
    · refine ⟨((m + 1 : Nat) : Int), by omega, h2, low_good hd ?_ ?_⟩
      · rw [Int.toNat_natCast, c]; omega
      · rw [Int.toNat_natCast, hr]
    · have q := WF.at W (v := m + 1) h1 h2
      have hm : 1 ≤ m := by
        rcases Nat.eq_zero_or_pos m with z | z
        · exfalso
          subst z
          exact c (by have := q.1; have := q.2.1; omega)
        · exact z
      have hl := h (m : Int) (by omega) (by omega)
      have hr2 : s.1.getD m default = (m : Int) + 1 := by
        refine Classical.byContradiction fun z => hl (state_lost.mpr ⟨by rw [Int.toNat_natCast]; exact z, by rw [show ((m : Int) + 1).toNat = m + 1 by omega]; exact c⟩)
      have hd2 : dueP s (m : Int) := .inr (.inl (state_left.mpr ⟨by rw [Int.toNat_natCast]; exact hr2, by rw [show ((m : Int) + 1).toNat = m + 1 by omega]; exact c⟩))
      exact low_down W h m hm (by omega) hd2 hr2
theorem low_up {n : Int} {s : St3} (W : WFs n s) (h : noLost n s) : ∀ (k m : Nat), (n - (m : Int)).toNat = k → 1 ≤ m → (m : Int) ≤ n → dueP s (m : Int) → s.2.1.getD m default = (m : Int) - 1 → ∃ v : Int, 1 ≤ v ∧ v ≤ n ∧ lowP s v := by
  intro k
  induction k with
  | zero =>
    intro m hk h1 h2 hd hl
    have q := WF.at W (v := m) h1 h2
    exact ⟨(m : Int), by omega, h2, low_good hd (by rw [Int.toNat_natCast]; exact hl) (by rw [Int.toNat_natCast]; omega)⟩
  | succ k ih =>
    intro m hk h1 h2 hd hl
    by_cases c : s.1.getD m default = (m : Int) + 1
    · exact ⟨(m : Int), by omega, h2, low_good hd (by rw [Int.toNat_natCast]; exact hl) (by rw [Int.toNat_natCast]; exact c)⟩
    · have hls := h (m : Int) (by omega) h2
      have hl2 : s.2.1.getD (m + 1) default = (m : Int) := by
        refine Classical.byContradiction fun z => hls (state_lost.mpr ⟨by rw [Int.toNat_natCast]; exact c, by rw [show ((m : Int) + 1).toNat = m + 1 by omega]; exact z⟩)
      have hd2 : dueP s ((m + 1 : Nat) : Int) := .inr (.inr (state_right.mpr ⟨by rw [show ((m + 1 : Nat) : Int) - 1 = (m : Int) by omega, Int.toNat_natCast]; exact c, by rw [show ((m + 1 : Nat) : Int) - 1 = (m : Int) by omega, show ((m : Int) + 1).toNat = m + 1 by omega]; exact hl2⟩))
      exact ih (m + 1) (by omega) (by omega) (by omega) hd2 (by omega)
/-- while anything is due, something lowers -/
theorem low_ex {n : Int} {s : St3} (W : WFs n s) (h : noLost n s) {m : Nat} (h1 : 1 ≤ m) (h2 : (m : Int) ≤ n) (hd : dueP s (m : Int)) : ∃ v : Int, 1 ≤ v ∧ v ≤ n ∧ lowP s v := by
  have q := WF.at W (v := m) h1 h2
  by_cases c : s.2.1.getD m default = (m : Int) - 1
  · exact low_up W h _ m rfl h1 h2 hd c
  · have hl := h ((m : Int) - 1) (by omega) (by omega)
    have e1 : ((m : Int) - 1).toNat = m - 1 := by omega
    have e2 : ((m : Int) - 1 + 1).toNat = m := by omega
    have hr2 : s.1.getD (m - 1) default = (m : Int) - 1 + 1 := by
      refine Classical.byContradiction fun z => hl (state_lost.mpr ⟨by rw [e1]; exact z, by rw [e2]; exact c⟩)
    have hd2 : dueP s ((m - 1 : Nat) : Int) := by
      rw [show ((m - 1 : Nat) : Int) = (m : Int) - 1 by omega]
      exact .inr (.inl (state_left.mpr ⟨by rw [e1]; exact hr2, by rw [e2]; exact c⟩))
    exact low_down W h (m - 1) (by omega) (by omega) hd2 (by omega)
/-- what the operation on a node does to the links -/
theorem op_R {n : Int} {s : St3} (W : WFs n s) {v : Int} (v1 : 1 ≤ v) (v2 : v ≤ n) (g : Int) (g0 : 0 ≤ g) : (stS s (opF s v)).1.getD g.toNat default = if g = s.2.1.getD v.toNat default then (if s.2.2.getD v.toNat default = true then v else s.1.getD v.toNat default) else s.1.getD g.toNat default := by
  have hO := (opF_ok (s := s) v1 v2)
  have h := ap_R W hO.1 g g0
  rw [hO.2.1] at h
  show (apR s.2.1 s.1 (opF s v)).getD g.toNat default = _
  rw [h]
  unfold opF
  by_cases c : s.2.2.getD v.toNat default = true
  · rw [if_pos c, if_pos c, if_neg (show ¬v < 0 by omega), show ((v.toNat : Nat) : Int) = v by omega]
  · rw [if_neg c, if_neg c, if_pos (show -v < 0 by omega)]
theorem op_L {n : Int} {s : St3} (W : WFs n s) {v : Int} (v1 : 1 ≤ v) (v2 : v ≤ n) (g : Int) (g0 : 0 ≤ g) : (stS s (opF s v)).2.1.getD (g + 1).toNat default = if g + 1 = s.1.getD v.toNat default then (if s.2.2.getD v.toNat default = true then v else s.2.1.getD v.toNat default) else s.2.1.getD (g + 1).toNat default := by
  have hO := (opF_ok (s := s) v1 v2)
  have h := ap_L W hO.1 g g0
  rw [hO.2.1] at h
  show (apL s.2.1 s.1 (opF s v)).getD (g + 1).toNat default = _
  rw [h]
  unfold opF
  by_cases c : s.2.2.getD v.toNat default = true
  · rw [if_pos c, if_pos c, if_neg (show ¬v < 0 by omega), show ((v.toNat : Nat) : Int) = v by omega]
  · rw [if_neg c, if_neg c, if_pos (show -v < 0 by omega)]
theorem op_F {n : Int} {s : St3} (W : WFs n s) {v : Int} (v1 : 1 ≤ v) (v2 : v ≤ n) (u : Nat) : (stS s (opF s v)).2.2.getD u default = if v.toNat = u then !s.2.2.getD v.toNat default else s.2.2.getD u default := by
  have hF := WF.hF W
  have hO := (opF_ok (s := s) v1 v2)
  show (s.2.2.set (opF s v).natAbs (decide (opF s v < 0))).getD u default = _
  rw [hO.2.1]
  by_cases z : v.toNat = u
  · rw [if_pos z, ← z, getD_set_eq (by omega)]
    unfold opF
    by_cases c : s.2.2.getD v.toNat default = true
    · rw [if_pos c, c]; simp; omega
    · have c' : s.2.2.getD v.toNat default = false := by simpa using c
      rw [if_neg c, c']; simp; omega
  · rw [if_neg z, getD_set_ne z]
/-- a lowering operation -/
theorem low_step {n : Int} {s : St3} (W : WFs n s) (h : noLost n s) {v : Int} (v1 : 1 ≤ v) (v2 : v ≤ n) (hlow : lowP s v) : noLost n (stS s (opF s v)) ∧ (∀ u : Int, 1 ≤ u → u ≤ n → u ≠ v → (dueP (stS s (opF s v)) u ↔ dueP s u) ∧ shareF (stS s (opF s v)) u = shareF s u) ∧ shV (stS s (opF s v)) v = shV s v - 1 := by
  have q := WF.at W (v := v.toNat) (by omega) (by omega)
  rw [show ((v.toNat : Nat) : Int) = v by omega] at q
  have eR := fun g g0 => op_R W v1 v2 g g0
  have eL := fun g g0 => op_L W v1 v2 g g0
  have eF := fun u => op_F W v1 v2 u
  obtain ⟨hd, hA, hB⟩ := hlow
  generalize hlo : s.2.1.getD v.toNat default = lo at q eR eL hA
  generalize hhi : s.1.getD v.toNat default = hi at q eR eL hB
  generalize stS s (opF s v) = s' at eR eL eF ⊢
  -- the links of s' at a gap
  have sl : ∀ {t : St3} {g : Int}, stateOf t.1 t.2.1 g = ("left" : Str) ↔ t.1.getD g.toNat default = g + 1 ∧ ¬t.2.1.getD (g + 1).toNat default = g := fun {t g} => state_left
  have sr : ∀ {t : St3} {g : Int}, stateOf t.1 t.2.1 g = ("right" : Str) ↔ ¬t.1.getD g.toNat default = g + 1 ∧ t.2.1.getD (g + 1).toNat default = g := fun {t g} => state_right
  have oth : ∀ g : Int, 0 ≤ g → g ≠ lo → g ≠ hi - 1 → stateOf s'.1 s'.2.1 g = stateOf s.1 s.2.1 g := by
    intro g g0 z1 z2
    unfold stateOf
    rw [eR g g0, eL g g0, if_neg z1, if_neg (show ¬g + 1 = hi by omega)]
  -- the low gap
  have aL : s'.2.1.getD (lo + 1).toNat default = s.2.1.getD (lo + 1).toNat default := by rw [eL lo q.1, if_neg (by omega)]
  have aR := eR lo q.1
  rw [if_pos rfl] at aR
  have lowSelf : lo = v - 1 → s.2.1.getD (lo + 1).toNat default = lo := fun z => by rw [show (lo + 1).toNat = v.toNat by omega]; exact hlo
  have aNotLeft : stateOf s'.1 s'.2.1 lo ≠ ("left" : Str) := by
    intro z
    obtain ⟨z1, z2⟩ := sl.mp z
    rw [aL] at z2
    by_cases c : lo = v - 1
    · exact z2 (lowSelf c)
    · rw [aR] at z1
      split at z1 <;> omega
  have bNotLeft : stateOf s.1 s.2.1 lo ≠ ("left" : Str) := by
    intro z
    obtain ⟨z1, z2⟩ := sl.mp z
    by_cases c : lo = v - 1
    · exact z2 (lowSelf c)
    · exact z2 (state_joined.mp (hA c z1).1).2
  have aNotLost : stateOf s'.1 s'.2.1 lo ≠ ("lost" : Str) := by
    intro z
    obtain ⟨z1, z2⟩ := state_lost.mp z
    rw [aL] at z2
    by_cases c : lo = v - 1
    · exact z2 (lowSelf c)
    · by_cases c2 : s.1.getD lo.toNat default = lo + 1
      · exact z2 (state_joined.mp (hA c c2).1).2
      · exact h lo q.1 (by omega) (state_lost.mpr ⟨c2, z2⟩)
  -- the high gap
  have eh : (hi - 1 + 1).toNat = hi.toNat := by rw [show hi - 1 + 1 = hi by omega]
  have bR : s'.1.getD (hi - 1).toNat default = s.1.getD (hi - 1).toNat default := by rw [eR (hi - 1) (by omega), if_neg (by omega)]
  have bL := eL (hi - 1) (by omega)
  rw [if_pos (by omega)] at bL
  have hiSelf : hi = v + 1 → s.1.getD (hi - 1).toNat default = hi := fun z => by rw [show (hi - 1).toNat = v.toNat by omega]; exact hhi
  have aNotRight : stateOf s'.1 s'.2.1 (hi - 1) ≠ ("right" : Str) := by
    intro z
    obtain ⟨z1, z2⟩ := sr.mp z
    rw [bR] at z1
    by_cases c : hi = v + 1
    · exact z1 (by rw [hiSelf c]; omega)
    · rw [bL] at z2
      split at z2 <;> omega
  have bNotRight : stateOf s.1 s.2.1 (hi - 1) ≠ ("right" : Str) := by
    intro z
    obtain ⟨z1, z2⟩ := sr.mp z
    by_cases c : hi = v + 1
    · exact z1 (by rw [hiSelf c]; omega)
    · rw [eh] at z2
      have := (state_joined.mp (hB c z2).1).1
      exact z1 this
  have bNotLost : stateOf s'.1 s'.2.1 (hi - 1) ≠ ("lost" : Str) := by
    intro z
    obtain ⟨z1, z2⟩ := state_lost.mp z
    rw [bR] at z1
    by_cases c : hi = v + 1
    · exact z1 (by rw [hiSelf c]; omega)
    · by_cases c2 : s.2.1.getD hi.toNat default = hi - 1
      · exact z1 (state_joined.mp (hB c c2).1).1
      · exact h (hi - 1) (by omega) (by omega) (state_lost.mpr ⟨z1, by rw [eh]; exact c2⟩)
  have same : ∀ u : Int, 1 ≤ u → u ≤ n → u ≠ v → s'.2.2.getD u.toNat default = s.2.2.getD u.toNat default := by
    intro u u1 u2 uv
    rw [eF, if_neg (by omega)]
  refine ⟨fun g g0 g1 => ?_, fun u u1 u2 uv => ⟨?_, ?_⟩, ?_⟩
  · by_cases z1 : g = lo
    · rw [z1]; exact aNotLost
    · by_cases z2 : g = hi - 1
      · rw [z2]; exact bNotLost
      · rw [oth g g0 z1 z2]; exact h g g0 g1
  · -- due as before
    have hleft : stateOf s'.1 s'.2.1 u = ("left" : Str) → dueP s u := by
      intro z
      by_cases z1 : u = lo
      · rw [z1] at z; exact absurd z aNotLeft
      · by_cases z2 : u = hi - 1
        · by_cases c : hi = v + 1
          · exact absurd (by omega) uv
          · have z' := z
            rw [z2] at z'
            obtain ⟨y1, y2⟩ := sl.mp z'
            rw [bR] at y1
            by_cases c2 : s.2.1.getD hi.toNat default = hi - 1
            · rw [z2]; exact (hB c c2).2
            · rw [z2]
              exact .inr (.inl (sl.mpr ⟨y1, by rw [eh]; exact c2⟩))
        · rw [oth u (by omega) z1 z2] at z; exact .inr (.inl z)
    have hright : stateOf s'.1 s'.2.1 (u - 1) = ("right" : Str) → dueP s u := by
      intro z
      by_cases z2 : u - 1 = hi - 1
      · rw [z2] at z; exact absurd z aNotRight
      · by_cases z1 : u - 1 = lo
        · by_cases c : lo = v - 1
          · exact absurd (by omega) uv
          · have z' := z
            rw [z1] at z'
            obtain ⟨y1, y2⟩ := sr.mp z'
            rw [aL] at y2
            by_cases c2 : s.1.getD lo.toNat default = lo + 1
            · have := (hA c c2).2
              rwa [show lo + 1 = u by omega] at this
            · refine .inr (.inr ?_)
              rw [z1]
              exact sr.mpr ⟨c2, y2⟩
        · rw [oth (u - 1) (by omega) z1 z2] at z; exact .inr (.inr z)
    constructor
    · rintro (z | z | z)
      · rw [same u u1 u2 uv] at z; exact .inl z
      · exact hleft z
      · exact hright z
    · rintro (z | z | z)
      · exact .inl (by rw [same u u1 u2 uv]; exact z)
      · by_cases z1 : u = lo
        · rw [z1] at z; exact absurd z bNotLeft
        · by_cases z2 : u = hi - 1
          · by_cases c : hi = v + 1
            · exact absurd (by omega) uv
            · refine .inr (.inl ?_)
              rw [z2]
              have z' := z
              rw [z2] at z'
              obtain ⟨y1, y2⟩ := sl.mp z'
              refine sl.mpr ⟨by rw [bR]; exact y1, ?_⟩
              rw [bL]
              split <;> omega
          · exact .inr (.inl (by rw [oth u (by omega) z1 z2]; exact z))
      · by_cases z2 : u - 1 = hi - 1
        · rw [z2] at z; exact absurd z bNotRight
        · by_cases z1 : u - 1 = lo
          · by_cases c : lo = v - 1
            · exact absurd (by omega) uv
            · refine .inr (.inr ?_)
              rw [z1]
              have z' := z
              rw [z1] at z'
              obtain ⟨y1, y2⟩ := sr.mp z'
              refine sr.mpr ⟨?_, by rw [aL]; exact y2⟩
              rw [aR]
              split <;> omega
          · exact .inr (.inr (by rw [oth (u - 1) (by omega) z1 z2]; exact z))
  · unfold shareF
    rw [same u u1 u2 uv]
  · have fv : s'.2.2.getD v.toNat default = !s.2.2.getD v.toNat default := by rw [eF, if_pos rfl]
    unfold shV
    rw [if_pos hd]
    by_cases c : s.2.2.getD v.toNat default = true
    · have c' : s'.2.2.getD v.toNat default = false := by rw [fv, c]; rfl
      have nd : ¬dueP s' v := by
        rintro (z | z | z)
        · rw [c'] at z; cases z
        · obtain ⟨z1, z2⟩ := sl.mp z
          by_cases y : hi = v + 1
          · rw [show (v + 1).toNat = (hi - 1 + 1).toNat by omega, bL, if_pos c] at z2
            exact z2 rfl
          · rw [eR v (by omega), if_neg (by omega), hhi] at z1
            exact y z1
        · obtain ⟨z1, z2⟩ := sr.mp z
          by_cases y : lo = v - 1
          · rw [show (v - 1).toNat = lo.toNat by omega, aR, if_pos c] at z1
            exact z1 (by omega)
          · rw [eL (v - 1) (by omega), if_neg (by omega), show (v - 1 + 1).toNat = v.toNat by omega, hlo] at z2
            exact y z2
      rw [if_neg nd]
      unfold shareF
      rw [if_pos c]; rfl
    · have c0 : s.2.2.getD v.toNat default = false := by simpa using c
      have c' : s'.2.2.getD v.toNat default = true := by rw [fv, c0]; rfl
      rw [if_pos (.inl c')]
      unfold shareF
      rw [if_pos c', if_neg c]; rfl
/-! ### the debt as a sum over all nodes -/
theorem debt_sum (n : Int) (s : St3) : debtF n s = ((List.range n.toNat).map fun i : Nat => shV s (1 + (i : Int))).sum := by
  unfold debtF dueL
  generalize List.range n.toNat = is
  induction is with
  | nil => rfl
  | cons i is ih =>
    rw [List.filterMap_cons, List.map_cons, List.sum_cons, ← ih]
    unfold shV
    by_cases c : dueP s (1 + (i : Int))
    · rw [if_pos c, if_pos c, List.map_cons, List.sum_cons]
    · rw [if_neg c, if_neg c, Int.zero_add]
theorem sum_one {f g : Nat → Int} {m : Nat} (h1 : ∀ i, i ≠ m → f i = g i) (h2 : f m = g m - 1) : ∀ k, ((List.range k).map f).sum = ((List.range k).map g).sum - (if m < k then 1 else 0)
  | 0 => by simp
  | k + 1 => by
    have ih := sum_one h1 h2 k
    rw [List.range_succ, List.map_append, List.map_append, List.sum_append, List.sum_append, ih]
    simp only [List.map_cons, List.map_nil, List.sum_cons, List.sum_nil]
    by_cases c : k = m
    · subst c
      rw [h2, if_neg (by omega), if_pos (by omega)]; omega
    · rw [h1 k c]
      by_cases c2 : m < k
      · rw [if_pos c2, if_pos (by omega)]; omega
      · rw [if_neg c2, if_neg (by omega)]; omega
theorem low_debt {n : Int} {s : St3} (W : WFs n s) (h : noLost n s) {v : Int} (v1 : 1 ≤ v) (v2 : v ≤ n) (hlow : lowP s v) : debtF n (stS s (opF s v)) = debtF n s - 1 := by
  obtain ⟨_, h2, h3⟩ := low_step W h v1 v2 hlow
  rw [debt_sum, debt_sum]
  have key : ∀ i : Nat, i < n.toNat → i ≠ v.toNat - 1 → shV (stS s (opF s v)) (1 + (i : Int)) = shV s (1 + (i : Int)) := by
    intro i hi hne
    obtain ⟨e1, e2⟩ := h2 (1 + (i : Int)) (by omega) (by omega) (by omega)
    unfold shV
    rw [e2]
    by_cases c : dueP s (1 + (i : Int))
    · rw [if_pos (e1.mpr c), if_pos c]
    · rw [if_neg (fun z => c (e1.mp z)), if_neg c]
  have e0 : (List.range n.toNat).map (fun i : Nat => shV (stS s (opF s v)) (1 + (i : Int))) = (List.range n.toNat).map (fun i : Nat => if i = v.toNat - 1 then shV s (1 + (i : Int)) - 1 else shV s (1 + (i : Int))) := by
    apply List.map_congr_left
    intro i hi
    have hi := List.mem_range.mp hi
    by_cases c : i = v.toNat - 1
    · rw [if_pos c]
      subst c
      rw [show 1 + ((v.toNat - 1 : Nat) : Int) = v by omega]; exact h3
    · rw [if_neg c]; exact key i hi c
  rw [e0, sum_one (f := fun i : Nat => if i = v.toNat - 1 then shV s (1 + (i : Int)) - 1 else shV s (1 + (i : Int))) (g := fun i : Nat => shV s (1 + (i : Int))) (m := v.toNat - 1) (fun i hi => if_neg hi) (if_pos rfl) n.toNat, if_pos (by omega)]
/-- nothing due, nothing lost: whole -/
theorem debt_whole {n : Int} {s : St3} (W : WFs n s) (h : noLost n s) (hd : ∀ v : Int, 1 ≤ v → v ≤ n → ¬dueP s v) : wholeS n s := by
  have hin : ∀ v : Nat, 1 ≤ v → (v : Int) ≤ n → s.2.2.getD v default = false := by
    intro v v1 v2
    cases c : s.2.2.getD v default with
    | false => rfl
    | true => exact absurd (.inl (by rw [Int.toNat_natCast]; exact c)) (hd (v : Int) (by omega) v2)
  exact fin_whole W ⟨h, fun v v1 v2 z => absurd z (hd v v1 v2)⟩ hin
theorem debt_pos {n : Int} {s : St3} : 0 ≤ debtF n s ∧ (debtF n s = 0 → ∀ v : Int, 1 ≤ v → v ≤ n → ¬dueP s v) := by
  have hs : ∀ v, 0 ≤ shV s v ∧ (shV s v = 0 → ¬dueP s v) := by
    intro v
    unfold shV shareF
    by_cases c : dueP s v
    · rw [if_pos c]
      split <;> exact ⟨by decide, fun z => by cases z⟩
    · rw [if_neg c]; exact ⟨by decide, fun _ => c⟩
  have key : ∀ k : Nat, 0 ≤ ((List.range k).map fun i : Nat => shV s (1 + (i : Int))).sum ∧ (((List.range k).map fun i : Nat => shV s (1 + (i : Int))).sum = 0 → ∀ i : Nat, i < k → shV s (1 + (i : Int)) = 0) := by
    intro k
    induction k with
    | zero => exact ⟨by simp, fun _ i hi => by omega⟩
    | succ k ih =>
      rw [List.range_succ, List.map_append, List.sum_append]
      simp only [List.map_cons, List.map_nil, List.sum_cons, List.sum_nil]
      have h1 := (hs (1 + (k : Int))).1
      refine ⟨by omega, fun z i hi => ?_⟩
      by_cases c : i < k
      · exact ih.2 (by omega) i c
      · obtain rfl : i = k := by omega
        omega
  rw [debt_sum]
  refine ⟨(key _).1, fun z v v1 v2 => ?_⟩
  have := (key _).2 z (v.toNat - 1) (by omega)
  rw [show 1 + ((v.toNat - 1 : Nat) : Int) = v by omega] at this
  exact (hs v).2 this
/-! ### the first repair -/
instance (s : St3) (v : Int) : Decidable (lowP s v) := by unfold lowP; infer_instance
/-- the least node that lowers -/
def flF (n : Int) (s : St3) : Int := 1 + ((((List.range n.toNat).find? fun i : Nat => decide (lowP s (1 + (i : Int)))).getD 0 : Nat) : Int)
theorem due_of_debt {n : Int} {s : St3} (hd : debtF n s ≠ 0) : ∃ v : Int, 1 ≤ v ∧ v ≤ n ∧ dueP s v := by
  refine Classical.byContradiction fun z => hd ?_
  have h0 : dueL n s = [] := by
    cases e : dueL n s with
    | nil => rfl
    | cons v rest =>
      have hv := dueL_in v (by rw [e]; exact List.mem_cons_self)
      exact absurd ⟨v, hv.1, hv.2.1, hv.2.2⟩ z
  unfold debtF
  rw [h0]; rfl
theorem fl_at {n : Int} {s : St3} {v : Int} (v1 : 1 ≤ v) (v2 : v ≤ n) (hl : lowP s v) : 1 ≤ flF n s ∧ flF n s ≤ n ∧ lowP s (flF n s) ∧ ∀ u, 1 ≤ u → u < flF n s → ¬lowP s u := by
  cases e : (List.range n.toNat).find? (fun i : Nat => decide (lowP s (1 + (i : Int)))) with
  | none =>
    have := List.find?_eq_none.mp e (v.toNat - 1) (List.mem_range.mpr (by omega))
    rw [show 1 + ((v.toNat - 1 : Nat) : Int) = v by omega] at this
    exact absurd (decide_eq_true hl) this
  | some i =>
    obtain ⟨h1, h2, h3⟩ := List.find?_range_eq_some.mp e
    have h2 := List.mem_range.mp h2
    have ef : flF n s = 1 + (i : Int) := by unfold flF; rw [e]; rfl
    rw [ef]
    refine ⟨by omega, by omega, of_decide_eq_true h1, fun u u1 u2 z => ?_⟩
    have := h3 (u.toNat - 1) (by omega)
    rw [show 1 + ((u.toNat - 1 : Nat) : Int) = u by omega, decide_eq_true z] at this
    cases this
theorem fl_ok {n : Int} {s : St3} (W : WFs n s) (h : noLost n s) (hd : debtF n s ≠ 0) : 1 ≤ flF n s ∧ flF n s ≤ n ∧ lowP s (flF n s) ∧ ∀ u, 1 ≤ u → u < flF n s → ¬lowP s u := by
  obtain ⟨v, v1, v2, hv⟩ := due_of_debt hd
  obtain ⟨u, u1, u2, hu⟩ := low_ex W h (m := v.toNat) (by omega) (by omega) (by rw [show ((v.toNat : Nat) : Int) = v by omega]; exact hv)
  exact fl_at u1 u2 hu
/-- the standing after i steps of the repair -/
def itS (n : Int) (s : St3) : Nat → St3
  | 0 => s
  | i + 1 => stS (itS n s i) (opF (itS n s i) (flF n (itS n s i)))
def mvF (n : Int) (s : St3) (i : Nat) : Int := opF (itS n s i) (flF n (itS n s i))
def repL (n : Int) (s : St3) : List Int := (List.range (debtF n s).toNat).map (mvF n s)
def actsF (n : Int) (s : St3) (u : Int) (k : Nat) : Nat := ((List.range k).filter fun j => decide (flF n (itS n s j) = u)).length
theorem itS_add (n : Int) (s : St3) (m : Nat) : ∀ j, itS n (itS n s m) j = itS n s (m + j)
  | 0 => rfl
  | j + 1 => by
    show stS (itS n (itS n s m) j) (opF (itS n (itS n s m) j) (flF n (itS n (itS n s m) j))) = _
    rw [itS_add n s m j]; rfl
theorem itS_ok {n : Int} {s : St3} (W : WFs n s) (h : noLost n s) : ∀ i : Nat, (i : Int) ≤ debtF n s → WFs n (itS n s i) ∧ noLost n (itS n s i) ∧ debtF n (itS n s i) = debtF n s - (i : Int) ∧ (∀ u, 1 ≤ u → u ≤ n → dueP (itS n s i) u → dueP s u) ∧ ∀ u, 1 ≤ u → u ≤ n → shV (itS n s i) u + (actsF n s u i : Int) = shV s u
  | 0, _ => ⟨W, h, by simp [itS], fun u _ _ z => z, fun u _ _ => by simp [itS, actsF]⟩
  | i + 1, hi => by
    obtain ⟨W1, h1, e1, d1, s1⟩ := itS_ok W h i (by omega)
    obtain ⟨f1, f2, f3, _⟩ := fl_ok W1 h1 (by omega)
    obtain ⟨g1, g2, g3⟩ := low_step W1 h1 f1 f2 f3
    have g4 := low_debt W1 h1 f1 f2 f3
    have W2 : WFs n (itS n s (i + 1)) := WF.ap W1 (opF_ok (s := itS n s i) f1 f2).1
    refine ⟨W2, g1, ?_, fun u u1 u2 z => ?_, fun u u1 u2 => ?_⟩
    · show debtF n (stS (itS n s i) _) = _
      rw [g4, e1]; omega
    · by_cases c : u = flF n (itS n s i)
      · exact d1 u u1 u2 (by rw [c]; exact f3.1)
      · exact d1 u u1 u2 ((g2 u u1 u2 c).1.mp z)
    · have ea : actsF n s u (i + 1) = actsF n s u i + if flF n (itS n s i) = u then 1 else 0 := by
        unfold actsF
        rw [List.range_succ, List.filter_append, List.length_append]
        by_cases c : flF n (itS n s i) = u
        · rw [if_pos c]; simp [c]
        · rw [if_neg c]; simp [c]
      have es := s1 u u1 u2
      rw [ea]
      by_cases c : flF n (itS n s i) = u
      · rw [if_pos c]
        have : shV (itS n s (i + 1)) u = shV (itS n s i) u - 1 := by rw [← c]; exact g3
        omega
      · rw [if_neg c]
        have q := g2 u u1 u2 (fun z => c z.symm)
        have : shV (itS n s (i + 1)) u = shV (itS n s i) u := by
          unfold shV
          show (if dueP (stS (itS n s i) _) u then shareF (stS (itS n s i) _) u else 0) = _
          rw [q.2]
          by_cases z : dueP (itS n s i) u
          · rw [if_pos (q.1.mpr z), if_pos z]
          · rw [if_neg (fun y => z (q.1.mp y)), if_neg z]
        omega
theorem repL_len (n : Int) (s : St3) : (repL n s).length = (debtF n s).toNat := by unfold repL; simp
theorem repL_at {n : Int} {s : St3} {i : Nat} {o : Int} (h : (repL n s)[i]? = some o) : i < (debtF n s).toNat ∧ o = mvF n s i := by
  unfold repL at h
  rw [List.getElem?_map] at h
  have hi : i < (debtF n s).toNat := by
    refine Classical.byContradiction fun z => ?_
    rw [List.getElem?_eq_none (by simpa using z)] at h
    cases h
  rw [List.getElem?_eq_getElem (by simpa using hi)] at h
  simp at h
  exact ⟨hi, h.symm⟩
theorem repL_drop {n : Int} {s : St3} (W : WFs n s) (h : noLost n s) {m : Nat} (hm : (m : Int) ≤ debtF n s) : repL n (itS n s m) = (repL n s).drop m := by
  obtain ⟨_, _, e, _, _⟩ := itS_ok W h m hm
  apply List.ext_getElem?
  intro j
  unfold repL
  rw [List.getElem?_drop, List.getElem?_map, List.getElem?_map, e]
  have em : mvF n (itS n s m) j = mvF n s (m + j) := by unfold mvF; rw [itS_add]
  by_cases c : j < (debtF n s - (m : Int)).toNat
  · rw [List.getElem?_eq_getElem (by simpa using c), List.getElem?_eq_getElem (by simp; omega)]
    simp [em]
  · rw [List.getElem?_eq_none (by simpa using c), List.getElem?_eq_none (by simp; omega)]; rfl
/-- the end of the repair -/
theorem rep_whole {n : Int} {s : St3} (W : WFs n s) (h : noLost n s) : wholeS n (itS n s (debtF n s).toNat) := by
  have h0 := (debt_pos (n := n) (s := s)).1
  obtain ⟨W1, h1, e, _, _⟩ := itS_ok W h (debtF n s).toNat (by omega)
  exact debt_whole W1 h1 (debt_pos.2 (by omega))
theorem rep_acts {n : Int} {s : St3} (W : WFs n s) (h : noLost n s) {u : Int} (u1 : 1 ≤ u) (u2 : u ≤ n) : (actsF n s u (debtF n s).toNat : Int) = shV s u := by
  have h0 := (debt_pos (n := n) (s := s)).1
  obtain ⟨W1, h1, e, _, es⟩ := itS_ok W h (debtF n s).toNat (by omega)
  have hn := debt_pos.2 (show debtF n (itS n s (debtF n s).toNat) = 0 by omega) u u1 u2
  have := es u u1 u2
  have h2 : shV (itS n s (debtF n s).toNat) u = 0 := by unfold shV; rw [if_neg hn]
  omega
/-- the operations of the node u in the repair -/
theorem acts_filter {n : Int} {s : St3} (W : WFs n s) (h : noLost n s) {u : Int} (u1 : 1 ≤ u) (u2 : u ≤ n) : (((repL n s).filterMap fun o => if o = u ∨ o = -u then some o else none).length : Int) = shV s u := by
  rw [← rep_acts W h u1 u2]
  unfold repL actsF
  have key : ∀ k : Nat, k ≤ (debtF n s).toNat → (((List.range k).map (mvF n s)).filterMap fun o => if o = u ∨ o = -u then some o else none).length = ((List.range k).filter fun j => decide (flF n (itS n s j) = u)).length := by
    intro k
    induction k with
    | zero => intro _; rfl
    | succ k ih =>
      intro hk
      rw [List.range_succ, List.map_append, List.filterMap_append, List.filter_append, List.length_append, List.length_append, ih (by omega)]
      congr 1
      obtain ⟨W1, h1, e, _, _⟩ := itS_ok W h k (by omega)
      obtain ⟨f1, f2, _, _⟩ := fl_ok W1 h1 (by omega)
      have hab : mvF n s k = flF n (itS n s k) ∨ mvF n s k = -flF n (itS n s k) := by
        unfold mvF opF; split
        · exact .inl rfl
        · exact .inr rfl
      by_cases c : flF n (itS n s k) = u
      · have c2 : mvF n s k = u ∨ mvF n s k = -u := by rw [← c]; exact hab
        simp [c, c2]
      · have c2 : ¬(mvF n s k = u ∨ mvF n s k = -u) := by omega
        simp [c, c2]
  rw [key _ (Nat.le_refl _)]
theorem lostL_nil {n : Int} {s : St3} (n0 : 0 ≤ n) : lostL n s = [] ↔ noLost n s := by
  unfold lostL lostF noLost
  rw [List.filterMap_eq_nil_iff]
  constructor
  · intro h g g0 g1 z
    have := h g.toNat (List.mem_range.mpr (by omega))
    rw [show ((g.toNat : Nat) : Int) = g by omega, if_pos z] at this
    cases this
  · intro h i hi
    have hi := List.mem_range.mp hi
    rw [if_neg (h (i : Int) (by omega) (by omega))]
/-- the gaps of the foreign writes, told apart -/
def okG (s : St3) (v g : Int) : Prop := stateOf s.1 s.2.1 g = ("joined" : Str) ∧ dueP s (if g < v then g + 1 else g)
theorem low_frg {n : Int} {s : St3} (W : WFs n s) {v : Int} (v1 : 1 ≤ v) (v2 : v ≤ n) : lowP s v ↔ dueP s v ∧ ∀ g ∈ frgF s.1 s.2.1 v, okG s v g := by
  have q := WF.at W (v := v.toNat) (by omega) (by omega)
  rw [show ((v.toNat : Nat) : Int) = v by omega] at q
  unfold lowP frgF okG
  generalize s.2.1.getD v.toNat default = lo at q ⊢
  generalize s.1.getD v.toNat default = hi at q ⊢
  constructor
  · rintro ⟨h1, h2, h3⟩
    refine ⟨h1, fun g hg => ?_⟩
    rcases List.mem_append.mp hg with z | z
    · split at z
      · rename_i c
        rw [List.mem_singleton.mp z, if_pos (by omega)]
        exact h2 c.1 c.2
      · exact absurd z List.not_mem_nil
    · split at z
      · rename_i c
        rw [List.mem_singleton.mp z, if_neg (by omega)]
        exact h3 c.1 c.2
      · exact absurd z List.not_mem_nil
  · rintro ⟨h1, h2⟩
    refine ⟨h1, fun c1 c2 => ?_, fun c1 c2 => ?_⟩
    · have := h2 lo (List.mem_append.mpr (.inl (by rw [if_pos ⟨c1, c2⟩]; exact List.mem_singleton.mpr rfl)))
      rwa [if_pos (by omega)] at this
    · have := h2 (hi - 1) (List.mem_append.mpr (.inr (by rw [if_pos ⟨c1, c2⟩]; exact List.mem_singleton.mpr rfl)))
      rwa [if_neg (by omega)] at this
theorem frg_app {n : Int} {s : St3} (W : WFs n s) {x v : Int} (v1 : 1 ≤ v) (v2 : v ≤ n) : frgF (s.1 ++ [x]) s.2.1 v = frgF s.1 s.2.1 v := by
  have q := WF.at W (v := v.toNat) (by omega) (by omega)
  unfold frgF
  rw [gd_app' W (x := x) (i := v.toNat) (by omega), gd_app' W (x := x) (i := (s.2.1.getD v.toNat default).toNat) (by omega)]
theorem frg_in {n : Int} {s : St3} (W : WFs n s) {v : Int} (v1 : 1 ≤ v) (v2 : v ≤ n) : (frgF s.1 s.2.1 v).length ≤ 2 ∧ ∀ g ∈ frgF s.1 s.2.1 v, 0 ≤ g ∧ g ≤ n ∧ 1 ≤ (if g < v then g + 1 else g) ∧ (if g < v then g + 1 else g) ≤ n := by
  have q := WF.at W (v := v.toNat) (by omega) (by omega)
  unfold frgF
  refine ⟨?_, fun g hg => ?_⟩
  · rw [List.length_append]
    have : ∀ (c : Prop) [Decidable c] (x : Int), (if c then [x] else []).length ≤ 1 := by intro c _ x; split <;> simp
    have h1 := this (s.2.1.getD v.toNat default ≠ v - 1 ∧ s.1.getD (s.2.1.getD v.toNat default).toNat default = s.2.1.getD v.toNat default + 1) (s.2.1.getD v.toNat default)
    have h2 := this (s.1.getD v.toNat default ≠ v + 1 ∧ s.2.1.getD (s.1.getD v.toNat default).toNat default = s.1.getD v.toNat default - 1) (s.1.getD v.toNat default - 1)
    omega
  · rcases List.mem_append.mp hg with z | z
    · split at z
      · have := List.mem_singleton.mp z
        rw [if_pos (by omega)]; omega
      · exact absurd z List.not_mem_nil
    · split at z
      · have := List.mem_singleton.mp z
        rename_i c
        have := c.1
        rw [if_neg (by omega)]
        refine ⟨by omega, by omega, by omega, by omega⟩
      · exact absurd z List.not_mem_nil
/-! ### first_repair -/
theorem debt_le {n : Int} {s : St3} (n0 : 0 ≤ n) : debtF n s ≤ 2 * n := by
  have hs : ∀ v, shV s v ≤ 2 := by
    intro v
    unfold shV shareF
    split
    · split <;> decide
    · decide
  have key : ∀ k : Nat, ((List.range k).map fun i : Nat => shV s (1 + (i : Int))).sum ≤ 2 * (k : Int) := by
    intro k
    induction k with
    | zero => simp
    | succ k ih =>
      rw [List.range_succ, List.map_append, List.sum_append]
      simp only [List.map_cons, List.map_nil, List.sum_cons, List.sum_nil]
      have := hs (1 + (k : Int))
      omega
  rw [debt_sum]
  have := key n.toNat
  omega
def sp_lowers (a : AD) : Sp := fun vs H Q E => ∃ (x l r f : Addr) (n v : Int) (s : St3), vs = [.ref x, .int v] ∧ LkS a H x l r f n s ∧ WFs n s ∧ 1 ≤ v ∧ v ≤ n ∧ ∀ H', Kp [] H H' → Q (.bl (decide (lowP s v))) H'
theorem sc_lowers : FnScope ["links", "node", "gap", "holder"] ["links", "node"] (defScope s_lowers) := ⟨rfl, rfl, rfl, by decide +kernel, rfl, by decide +kernel, by decide +kernel⟩
theorem ok_lowers {P : Program} {w : World} {K : PySem.W.Frag} {mg : Str → Option Value} {base : Heap} {a : AD} (T : Txt P K mg a) (G_is_due : FnA P w K mg base 5 a.f_is_due ["links", "node"] (sp_is_due a)) (G_foreign_writes : FnA P w K mg base 4 a.f_foreign_writes ["links", "operation"] (sp_foreign_writes a)) (G_Links_operation_on : FnA P w K mg base 2 a.f_Links_operation_on ["self", "node"] (sp_Links_operation_on a)) (G_gap_state : FnA P w K mg base 4 a.f_gap_state ["links", "gap"] (sp_gap_state a)) : FnA P w K mg base 6 a.f_lowers ["links", "node"] (sp_lowers a) := by
  obtain ⟨fd, F, b⟩ := T.F_lowers
  refine FnA.of F sc_lowers b (fun vs H Q E h => by first | (obtain ⟨rfl, _⟩ := h; rfl) | (obtain ⟨_, rfl, _⟩ := h; rfl) | (obtain ⟨_, _, rfl, _⟩ := h; rfl) | (obtain ⟨_, _, _, rfl, _⟩ := h; rfl) | (obtain ⟨_, _, _, _, rfl, _⟩ := h; rfl) | (obtain ⟨_, _, _, _, _, rfl, _⟩ := h; rfl) | (obtain ⟨_, _, _, _, _, _, rfl, _⟩ := h; rfl) | (obtain ⟨_, _, _, _, _, _, _, rfl, _⟩ := h; rfl) | (obtain ⟨_, _, _, _, _, _, _, _, rfl, _⟩ := h; rfl) | (obtain ⟨_, _, _, _, _, _, _, _, _, rfl, _⟩ := h; rfl) | (obtain ⟨_, _, _, _, _, _, _, _, _, _, rfl, _⟩ := h; rfl) | (obtain ⟨_, _, _, _, _, _, _, _, _, _, _, rfl, _⟩ := h; rfl) | (obtain ⟨_, _, _, _, _, _, _, _, _, _, _, _, rfl, _⟩ := h; rfl) | (obtain ⟨_, _, _, _, _, _, _, _, _, _, _, _, _, rfl, _⟩ := h; rfl) | (obtain ⟨_, _, _, _, _, _, _, _, _, _, _, _, _, _, rfl, _⟩ := h; rfl) | (obtain ⟨_, _, _, _, _, _, _, _, _, _, _, _, _, _, _, rfl, _⟩ := h; rfl) | (obtain ⟨_, _, _, _, _, _, _, _, _, _, _, _, _, _, _, _, rfl, _⟩ := h; rfl) | (obtain ⟨_, _, _, _, _, _, _, _, _, _, _, _, _, _, _, _, _, rfl, _⟩ := h; rfl) | (obtain ⟨_, _, _, _, _, _, _, _, _, _, _, _, _, _, _, _, _, _, rfl, _⟩ := h; rfl) | (obtain ⟨_, _, _, _, _, _, _, _, _, _, _, _, _, _, _, _, _, _, _, rfl, _⟩ := h; rfl) | (obtain ⟨_, _, _, _, _, _, _, _, _, _, _, _, _, _, _, _, _, _, _, _, rfl, _⟩ := h; rfl) | (obtain ⟨_, _, _, _, _, _, _, _, _, _, _, _, _, _, _, _, _, _, _, _, _, rfl, _⟩ := h; rfl) | (obtain ⟨_, _, _, _, _, _, _, _, _, _, _, _, _, _, _, _, _, _, _, _, _, _, rfl, _⟩ := h; rfl) | (obtain ⟨_, _, _, _, _, _, _, _, _, _, _, _, _, _, _, _, _, _, _, _, _, _, _, rfl, _⟩ := h; rfl)) (fun cdv A outer s H vs Q E hr tk pz h => ?_)
  have hu := hr.units
  have hrH := L2H.roomH_of hr
  obtain ⟨x, l, r, f, n, v, s, rfl, hL, W, v1, v2, k⟩ := h
  refine ⟨_, (pss_cons (ps_if (pt_not (pt_tru (pe_callA G_is_due (Room.mono hr (by decide)) T.n_is_due tk (pa_cons (pv 0) (pa_cons (pv 1) pa_nil))))) (pss_one (ps_ret pe_bl)) pss_nil)
      (pss_cons (ps_for pz rfl (pi_list (pe_callA G_foreign_writes (Room.mono hr (by decide)) T.n_foreign_writes tk (pa_cons (pv 0) (pa_cons (pe_methS (pl := _) G_Links_operation_on (Room.mono hr (by decide)) T.cl_Links T.me_Links_operation_on tk (pv 0) (pa_cons (pv 1) pa_nil)) pa_nil)))) (pg_name (i := 2) sc_lowers.nd rfl (Or.inl rfl))
      (pss_cons (ps_set (i := 3) sc_lowers.nd rfl (Or.inl rfl) (pv 2))
      (pss_cut (ps_if (pt_cmpA op_lt (pv 2) (pv 1) (nomark _)) (pss_one (ps_set (i := 3) sc_lowers.nd rfl (Or.inl rfl) (pe_op o_add (pv 2) pe_int))) pss_nil)
      (pss_one (ps_if (PW.pt (pw_or (pt_cmpA (o_ne hu) (pe_callA G_gap_state (Room.mono hr (by decide)) T.n_gap_state tk (pa_cons (pv 0) (pa_cons (pv 2) pa_nil))) pe_str (nomark _)) (pw_or1 (pt_not (pt_tru (pe_callA G_is_due (Room.mono hr (by decide)) T.n_is_due tk (pa_cons (pv 0) (pa_cons (pv 3) pa_nil)))))))) (pss_one (ps_ret pe_bl)) pss_nil)))))
      (pss_one (ps_ret pe_bl)))), ?_⟩
  show (_ : Ends → L2.St → Hp → Prop) _ [some _, some _, none, none] _
  try dsimp only [L2H.cxH, cxOf]
  have hO := hL.obj W
  have hx := hL.1.choose_spec
  have hF := WF.hF W
  obtain ⟨hop, hab, hok⟩ := opF_ok (s := s) (v := v) (n := n) v1 v2
  have hlf := low_frg W v1 v2
  obtain ⟨fl, fin⟩ := frg_in W v1 v2
  walk_at "w"
  refine ⟨x, l, r, f, n, v, s, rfl, hL, W, v1, v2, ?_⟩
  by_cases hd : dueP s v
  · rw [show decide (dueP s v) = true by simpa using hd]
    walk_at "w"
    refine ⟨x, l, r, f, n, v, _, _, _, rfl, hO, by omega, by omega, ?_⟩
    walk_at "w"
    refine ⟨x, l, r, f, n, opF s v, _, _, _, rfl, hO, fun z => absurd hop z, fun _ z => absurd z hok.2, fun _ _ => ?_⟩
    have qa := WF.at W (v := (opF s v).natAbs) (by rw [hab]; omega) (by rw [hab]; omega)
    have eR := gd_app' W (x := n + 2) (i := (opF s v).natAbs) (by rw [hab]; omega)
    rw [eR]
    refine ⟨qa.1, by rw [hab] at qa ⊢; omega, by rw [hab] at qa ⊢; omega, by rw [hab] at qa ⊢; omega, fun p H1 hp k1 hp1 => ?_⟩
    rw [hab, show ((v.toNat : Nat) : Int) = v by omega, frg_app W v1 v2] at hp1
    generalize frgF s.1 s.2.1 v = gs at hp1 hlf fl fin
    refine w_forM (f := V.int) hp1 (fun i σ' H' => ∃ z2 z3, σ' = [some (.ref x), some (.int v), z2, z3] ∧ Kp [] H1 H' ∧ ∀ g ∈ gs.take i, okG s v g) ⟨_, _, rfl, Kp.refl, by simp⟩ (fun i σ' H' _ h => by obtain ⟨_, _, _, h, _⟩ := h; exact h.at0 hp1) ?_ ?_
    · rintro i g σ' H2 hg ⟨z2, z3, rfl, k2, hj⟩
      have hgm := List.mem_of_getElem? hg
      obtain ⟨g0, g1, g2, g3⟩ := fin g hgm
      have k02 := k1.trans0 k2
      have hL2 := hL.kp0 k02
      have hO2 := hL2.obj W
      have no : ¬okG s v g → decide (lowP s v) = false := fun z => decide_eq_false fun y => z ((hlf.mp y).2 g hgm)
      walk_at "w"
      refine s_cut (fun σ' H' => H' = H2 ∧ σ' = [some (.ref x), some (.int v), some (.int g), some (.int (if g < v then g + 1 else g))]) ?_ ?_
      · walk_at "w"
        refine w_ite (fun c => ?_) (fun c => ?_)
        · rw [if_pos c]
          walk_at "w"
          exact ⟨rfl, rfl⟩
        · rw [if_neg c]
          walk_at "w"
          exact ⟨rfl, rfl⟩
      rintro σ' H3 ⟨e, rfl⟩
      subst e
      walk_at "w"
      refine ⟨x, l, r, f, n, g, _, _, _, rfl, hO2, fun z => absurd ⟨g0, g1⟩ z, fun _ _ => ?_⟩
      rw [gap_app W g0 g1]
      walk_at "w"
      by_cases c1 : stateOf s.1 s.2.1 g = ("joined" : Str)
      · rw [show decide (stateOf s.1 s.2.1 g = ("joined" : Str)) = true by simpa using c1]
        walk_at "w"
        refine ⟨x, l, r, f, n, _, s, rfl, hL2, W, g2, g3, ?_⟩
        by_cases c2 : dueP s (if g < v then g + 1 else g)
        · rw [show decide (dueP s (if g < v then g + 1 else g)) = true by simpa using c2]
          walk_at "w"
          refine ⟨_, _, rfl, k2, fun y hy => ?_⟩
          rw [take_snoc hg] at hy
          rcases List.mem_append.mp hy with z | z
          · exact hj y z
          · rw [List.mem_singleton.mp z]; exact ⟨c1, c2⟩
        · rw [show decide (dueP s (if g < v then g + 1 else g)) = false by simpa using c2]
          walk_at "w"
          rw [no (fun z => c2 z.2)] at k
          exact k H3 k02
      · rw [show decide (stateOf s.1 s.2.1 g = ("joined" : Str)) = false by simpa using c1]
        walk_at "w"
        rw [no (fun z => c1 z.1)] at k
        exact k H3 k02
    · rintro σ' H2 ⟨z2, z3, rfl, k2, hj⟩
      rw [List.take_length] at hj
      walk_at "w"
      rw [decide_eq_true (hlf.mpr ⟨hd, hj⟩)] at k
      exact k H2 (k1.trans0 k2)
  · rw [show decide (dueP s v) = false by simpa using hd]
    walk_at "w"
    rw [decide_eq_false (fun z => hd z.1)] at k
    exact k H Kp.refl
def sp__first_lowering (a : AD) : Sp := fun vs H Q E => ∃ (x l r f p : Addr) (n : Int) (s : St3) (us : List Int) (m : Nat) (v : Int), vs = [.ref x, .ref p] ∧ LkS a H x l r f n s ∧ WFs n s ∧ H p = some (.lst (us.map V.int)) ∧ us.length ≤ 60 ∧ (∀ u ∈ us, 1 ≤ u ∧ u ≤ n) ∧ us[m]? = some v ∧ lowP s v ∧ (∀ j u, j < m → us[j]? = some u → ¬lowP s u) ∧ ∀ H', Kp [] H H' → Q (.int (opF s v)) H'
theorem sc__first_lowering : FnScope ["links", "nodes", "place"] ["links", "nodes"] (defScope s__first_lowering) := ⟨rfl, rfl, rfl, by decide +kernel, rfl, by decide +kernel, by decide +kernel⟩
theorem ok__first_lowering {P : Program} {w : World} {K : PySem.W.Frag} {mg : Str → Option Value} {base : Heap} {a : AD} (T : Txt P K mg a) (G_lowers : FnA P w K mg base 6 a.f_lowers ["links", "node"] (sp_lowers a)) (G_Links_operation_on : FnA P w K mg base 2 a.f_Links_operation_on ["self", "node"] (sp_Links_operation_on a)) : FnA P w K mg base 7 a.f__first_lowering ["links", "nodes"] (sp__first_lowering a) := by
  obtain ⟨fd, F, b⟩ := T.F__first_lowering
  refine FnA.of F sc__first_lowering b (fun vs H Q E h => by first | (obtain ⟨rfl, _⟩ := h; rfl) | (obtain ⟨_, rfl, _⟩ := h; rfl) | (obtain ⟨_, _, rfl, _⟩ := h; rfl) | (obtain ⟨_, _, _, rfl, _⟩ := h; rfl) | (obtain ⟨_, _, _, _, rfl, _⟩ := h; rfl) | (obtain ⟨_, _, _, _, _, rfl, _⟩ := h; rfl) | (obtain ⟨_, _, _, _, _, _, rfl, _⟩ := h; rfl) | (obtain ⟨_, _, _, _, _, _, _, rfl, _⟩ := h; rfl) | (obtain ⟨_, _, _, _, _, _, _, _, rfl, _⟩ := h; rfl) | (obtain ⟨_, _, _, _, _, _, _, _, _, rfl, _⟩ := h; rfl) | (obtain ⟨_, _, _, _, _, _, _, _, _, _, rfl, _⟩ := h; rfl) | (obtain ⟨_, _, _, _, _, _, _, _, _, _, _, rfl, _⟩ := h; rfl) | (obtain ⟨_, _, _, _, _, _, _, _, _, _, _, _, rfl, _⟩ := h; rfl) | (obtain ⟨_, _, _, _, _, _, _, _, _, _, _, _, _, rfl, _⟩ := h; rfl) | (obtain ⟨_, _, _, _, _, _, _, _, _, _, _, _, _, _, rfl, _⟩ := h; rfl) | (obtain ⟨_, _, _, _, _, _, _, _, _, _, _, _, _, _, _, rfl, _⟩ := h; rfl) | (obtain ⟨_, _, _, _, _, _, _, _, _, _, _, _, _, _, _, _, rfl, _⟩ := h; rfl) | (obtain ⟨_, _, _, _, _, _, _, _, _, _, _, _, _, _, _, _, _, rfl, _⟩ := h; rfl) | (obtain ⟨_, _, _, _, _, _, _, _, _, _, _, _, _, _, _, _, _, _, rfl, _⟩ := h; rfl) | (obtain ⟨_, _, _, _, _, _, _, _, _, _, _, _, _, _, _, _, _, _, _, rfl, _⟩ := h; rfl) | (obtain ⟨_, _, _, _, _, _, _, _, _, _, _, _, _, _, _, _, _, _, _, _, rfl, _⟩ := h; rfl) | (obtain ⟨_, _, _, _, _, _, _, _, _, _, _, _, _, _, _, _, _, _, _, _, _, rfl, _⟩ := h; rfl) | (obtain ⟨_, _, _, _, _, _, _, _, _, _, _, _, _, _, _, _, _, _, _, _, _, _, rfl, _⟩ := h; rfl) | (obtain ⟨_, _, _, _, _, _, _, _, _, _, _, _, _, _, _, _, _, _, _, _, _, _, _, rfl, _⟩ := h; rfl)) (fun cdv A outer s H vs Q E hr tk pz h => ?_)
  have hu := hr.units
  have hrH := L2H.roomH_of hr
  obtain ⟨x, l, r, f, p, n, s, us, m, v, rfl, hL, W, hp, hlen, hin, hm, hlow, hbefore, k⟩ := h
  refine ⟨_, (pss_cons (ps_set (i := 2) sc__first_lowering.nd rfl (Or.inl rfl) pe_int)
      (pss_cons (ps_while pz (pt_not (pt_tru (pe_callA G_lowers (Room.mono hr (by decide)) T.n_lowers tk (pa_cons (pv 0) (pa_cons (pe_ix ix_seq (pv 1) (pv 2) (fun _ _ => rfl)) pa_nil)))))
      (pss_one (ps_set (i := 2) sc__first_lowering.nd rfl (Or.inl rfl) (pe_op o_add (pv 2) pe_int))))
      (pss_one (ps_ret (pe_methS (pl := _) G_Links_operation_on (Room.mono hr (by decide)) T.cl_Links T.me_Links_operation_on tk (pv 0) (pa_cons (pe_ix ix_seq (pv 1) (pv 2) (fun _ _ => rfl)) pa_nil)))))), ?_⟩
  show (_ : Ends → L2.St → Hp → Prop) _ [some _, some _, none] _
  try dsimp only [L2H.cxH, cxOf]
  have hml := (List.getElem?_eq_some_iff.mp hm).1
  walk_at "w"
  refine w_while (fun σ' H' => ∃ i : Nat, σ' = [some (.ref x), some (.ref p), some (.int (i : Int))] ∧ Kp [] H H' ∧ i ≤ m) (fun σ' H' => match σ' with | [_, _, some (.int i)] => m - i.toNat | _ => 0) ⟨0, rfl, Kp.refl, Nat.zero_le _⟩ ?_
  rintro σ' H1 ⟨i, rfl, k1, him⟩
  have hL1 := hL.kp0 k1
  have hp1 := k1.at0 hp
  have hu : us[i]? = some (us.getD i default) := by simp [List.getD, List.getElem?_eq_getElem (show i < us.length by omega)]
  have hub := hin _ (List.mem_of_getElem? hu)
  have hui : (i : Int).toNat = i := by omega
  walk_at "w"
  rw [hui]
  refine ⟨x, l, r, f, n, us.getD i default, s, rfl, hL1, W, hub.1, hub.2, fun H2 k2 => ?_⟩
  by_cases c : lowP s (us.getD i default)
  · rw [show decide (lowP s (us.getD i default)) = true by simpa using c]
    have e : i = m := by
      refine Classical.byContradiction fun z => hbefore i _ (by omega) hu c
    subst e
    rw [hm] at hu
    cases hu
    have hL2 := hL1.kp0 k2
    have hp2 := k2.at0 hp1
    have hO2 := hL2.obj W
    have hx2 := hL2.1.choose_spec
    walk_at "w"
    rw [hui]
    refine ⟨x, l, r, f, n, _, _, _, _, rfl, hO2, by omega, by omega, ?_⟩
    walk_at "w"
    exact k H2 (k1.trans0 k2)
  · rw [show decide (lowP s (us.getD i default)) = false by simpa using c]
    have hne : i ≠ m := by
      rintro rfl
      rw [hm] at hu
      injection hu with hu
      exact c (hu ▸ hlow)
    walk_at "w"
    refine w_turn ?_
    walk_at "w"
    refine ⟨⟨i + 1, rfl, k1.trans0 k2, by omega⟩, ?_⟩
    show m - ((i : Int) + 1).toNat < m - (i : Int).toNat
    omega
/-- the first lowering node stands among the due ones, first of them -/
theorem fl_due {n : Int} {s t : St3} (hd : ∀ u, 1 ≤ u → u ≤ n → dueP t u → dueP s u) (h1 : 1 ≤ flF n t) (h2 : flF n t ≤ n) (h3 : lowP t (flF n t)) (h4 : ∀ u, 1 ≤ u → u < flF n t → ¬lowP t u) : ∃ m : Nat, (dueL n s)[m]? = some (flF n t) ∧ ∀ (j : Nat) (u : Int), j < m → (dueL n s)[j]? = some u → ¬lowP t u := by
  have hmem : flF n t ∈ dueL n s := by
    unfold dueL
    rw [List.mem_filterMap]
    refine ⟨(flF n t).toNat - 1, List.mem_range.mpr (by omega), ?_⟩
    rw [show 1 + (((flF n t).toNat - 1 : Nat) : Int) = flF n t by omega, if_pos (hd _ h1 h2 h3.1)]
  have hs : (dueL n s).Pairwise (fun x y : Int => x < y) := by
    unfold dueL
    refine List.Pairwise.filterMap _ (fun a a' hlt b hb b' hb' => ?_) List.pairwise_lt_range
    split at hb
    · split at hb'
      · cases hb
        cases hb'
        have : a < a' := hlt
        omega
      · cases hb'
    · cases hb
  obtain ⟨m, hm, e⟩ := List.getElem_of_mem hmem
  refine ⟨m, by rw [List.getElem?_eq_getElem hm, e], fun j u hj hu => ?_⟩
  obtain ⟨hj', rfl⟩ := List.getElem?_eq_some_iff.mp hu
  have := List.pairwise_iff_getElem.mp hs j m hj' hm hj
  rw [e] at this
  exact h4 _ (dueL_in _ (List.getElem_mem hj')).1 this
def sp_first_repair (a : AD) : Sp := fun vs H Q E => ∃ (x l r f : Addr) (n : Int) (s : St3), vs = [.ref x] ∧ LkS a H x l r f n s ∧ WFs n s ∧ (∀ g rest, lostL n s = g :: rest → xNotRepairable a (.int g) E H) ∧ (lostL n s = [] → ∀ p H', H p = none → Kp [] H H' → H' p = some (.lst ((repL n s).map V.int)) → Q (.ref p) H')
theorem sc_first_repair : FnScope ["links", "many", "nodes", "standing", "log", "_", "operation"] ["links"] (defScope s_first_repair) := ⟨rfl, rfl, rfl, by decide +kernel, rfl, by decide +kernel, by decide +kernel⟩
theorem ok_first_repair {P : Program} {w : World} {K : PySem.W.Frag} {mg : Str → Option Value} {base : Heap} {a : AD} (T : Txt P K mg a) (G_debt_of : FnA P w K mg base 9 a.f_debt_of ["links"] (sp_debt_of a)) (G_due_nodes : FnA P w K mg base 6 a.f_due_nodes ["links"] (sp_due_nodes a)) (G_Links_copy : FnA P w K mg base 6 a.f_Links_copy ["self"] (sp_Links_copy a)) (G__first_lowering : FnA P w K mg base 7 a.f__first_lowering ["links", "nodes"] (sp__first_lowering a)) (G_Links_apply : FnA P w K mg base 4 a.f_Links_apply ["self", "operation"] (sp_Links_apply a)) : FnA P w K mg base 10 a.f_first_repair ["links"] (sp_first_repair a) := by
  obtain ⟨fd, F, b⟩ := T.F_first_repair
  refine FnA.of F sc_first_repair b (fun vs H Q E h => by first | (obtain ⟨rfl, _⟩ := h; rfl) | (obtain ⟨_, rfl, _⟩ := h; rfl) | (obtain ⟨_, _, rfl, _⟩ := h; rfl) | (obtain ⟨_, _, _, rfl, _⟩ := h; rfl) | (obtain ⟨_, _, _, _, rfl, _⟩ := h; rfl) | (obtain ⟨_, _, _, _, _, rfl, _⟩ := h; rfl) | (obtain ⟨_, _, _, _, _, _, rfl, _⟩ := h; rfl) | (obtain ⟨_, _, _, _, _, _, _, rfl, _⟩ := h; rfl) | (obtain ⟨_, _, _, _, _, _, _, _, rfl, _⟩ := h; rfl) | (obtain ⟨_, _, _, _, _, _, _, _, _, rfl, _⟩ := h; rfl) | (obtain ⟨_, _, _, _, _, _, _, _, _, _, rfl, _⟩ := h; rfl) | (obtain ⟨_, _, _, _, _, _, _, _, _, _, _, rfl, _⟩ := h; rfl) | (obtain ⟨_, _, _, _, _, _, _, _, _, _, _, _, rfl, _⟩ := h; rfl) | (obtain ⟨_, _, _, _, _, _, _, _, _, _, _, _, _, rfl, _⟩ := h; rfl) | (obtain ⟨_, _, _, _, _, _, _, _, _, _, _, _, _, _, rfl, _⟩ := h; rfl) | (obtain ⟨_, _, _, _, _, _, _, _, _, _, _, _, _, _, _, rfl, _⟩ := h; rfl) | (obtain ⟨_, _, _, _, _, _, _, _, _, _, _, _, _, _, _, _, rfl, _⟩ := h; rfl) | (obtain ⟨_, _, _, _, _, _, _, _, _, _, _, _, _, _, _, _, _, rfl, _⟩ := h; rfl) | (obtain ⟨_, _, _, _, _, _, _, _, _, _, _, _, _, _, _, _, _, _, rfl, _⟩ := h; rfl) | (obtain ⟨_, _, _, _, _, _, _, _, _, _, _, _, _, _, _, _, _, _, _, rfl, _⟩ := h; rfl) | (obtain ⟨_, _, _, _, _, _, _, _, _, _, _, _, _, _, _, _, _, _, _, _, rfl, _⟩ := h; rfl) | (obtain ⟨_, _, _, _, _, _, _, _, _, _, _, _, _, _, _, _, _, _, _, _, _, rfl, _⟩ := h; rfl) | (obtain ⟨_, _, _, _, _, _, _, _, _, _, _, _, _, _, _, _, _, _, _, _, _, _, rfl, _⟩ := h; rfl) | (obtain ⟨_, _, _, _, _, _, _, _, _, _, _, _, _, _, _, _, _, _, _, _, _, _, _, rfl, _⟩ := h; rfl)) (fun cdv A outer s H vs Q E hr tk pz h => ?_)
  have hu := hr.units
  have hrH := L2H.roomH_of hr
  obtain ⟨x, l, r, f, n, s, rfl, hL, W, hb, k⟩ := h
  refine ⟨_, (pss_cons (ps_set (i := 1) sc_first_repair.nd rfl (Or.inl rfl) (pe_callA G_debt_of (Room.mono hr (by decide)) T.n_debt_of tk (pa_cons (pv 0) pa_nil)))
      (pss_cons (ps_set (i := 2) sc_first_repair.nd rfl (Or.inl rfl) (pe_callA G_due_nodes (Room.mono hr (by decide)) T.n_due_nodes tk (pa_cons (pv 0) pa_nil)))
      (pss_cons (ps_set (i := 3) sc_first_repair.nd rfl (Or.inl rfl) (pe_methS0 (pl := _) G_Links_copy (Room.mono hr (by decide)) T.cl_Links T.me_Links_copy tk (pv 0)))
      (pss_cons (ps_set (i := 4) sc_first_repair.nd rfl (Or.inl rfl) (pe_lst pa_nil))
      (pss_cons (ps_for pz rfl (pi_range1 rfl T.b_range (pa_cons (pv 1) pa_nil)) (pg_name (i := 5) sc_first_repair.nd rfl (Or.inl rfl))
      (pss_cons (ps_set (i := 6) sc_first_repair.nd rfl (Or.inl rfl) (pe_callA G__first_lowering (Room.mono hr (by decide)) T.n__first_lowering tk (pa_cons (pv 3) (pa_cons (pv 2) pa_nil))))
      (pss_cons (ps_expr (pe_methS (pl := _) G_Links_apply (Room.mono hr (by decide)) T.cl_Links T.me_Links_apply tk (pv 3) (pa_cons (pv 6) pa_nil)))
      (pss_one (ps_expr (pe_bm PySem.F.plainAttrs_list PySem.F.slot_list_append PySem.F.type_list_append mt_append (pv 4) (pa_cons (pv 6) pa_nil)))))))
      (pss_one (ps_ret (pv 4)))))))), ?_⟩
  show (_ : Ends → L2.St → Hp → Prop) _ [some _, none, none, none, none, none, none] _
  try dsimp only [L2H.cxH, cxOf]
  have n0 := WF.n0 W
  have n1 := WF.n1 W
  have hdl := dueL_len n s
  have hde := debt_le (s := s) n0
  have hd0 := (debt_pos (n := n) (s := s)).1
  walk_at "w"
  refine ⟨x, l, r, f, n, s, rfl, hL, W, hb, fun c H1 k1 => ?_⟩
  have hno := (lostL_nil n0).mp c
  walk_at "w"
  refine ⟨x, l, r, f, n, s, rfl, hL.kp0 k1, W, fun p H2 hp k2 hp2 => ?_⟩
  have k02 := k1.trans0 k2
  have hL2 := hL.kp0 k02
  have hx2 := hL2.1.choose_spec
  walk_at "w"
  refine ⟨x, l, r, f, n, _, _, _, rfl, hL2, n0, n1, fun y yl yr yf H3 hy hyl hyr hyf hY k3 => ?_⟩
  have hY : LkS a H3 y yl yr yf n s := hY
  have k03 := k02.trans0 k3
  have hp3 := k3.at0 hp2
  have pl : p ≠ yl := ne_of_none hp2 hyl
  have pr : p ≠ yr := ne_of_none hp2 hyr
  have pf : p ≠ yf := ne_of_none hp2 hyf
  have hyl0 := k02.free hyl
  have hyr0 := k02.free hyr
  have hyf0 := k02.free hyf
  walk_at "w"
  intro g hg
  have kg := Kp.refl.new (ms := []) (o := .lst []) hg
  have hg4 : upd H3 g (.lst []) g = some (.lst (((List.range 0).map (mvF n s)).map V.int)) := upd_same
  have hp4 := kg.at0 hp3
  have hY4 := hY.kp0 kg
  have gY : ∀ z ∈ [y, yl, yr, yf], z ≠ g := fun z hz => by
    obtain ⟨o, e⟩ := hY.live z hz
    exact ne_of_none e hg
  have gp : p ≠ g := ne_of_none hp3 hg
  have hg0 := k03.free hg
  have k04 := k03.trans0 kg
  generalize upd H3 g (.lst []) = H4 at kg hg4 hp4 hY4 k04
  walk_at "w"
  refine w_rng1 (n := debtF n s) (by omega) (by omega) (fun i σ' H' => ∃ z5 z6, σ' = [some (.ref x), some (.int (debtF n s)), some (.ref p), some (.ref y), some (.ref g), z5, z6] ∧ Kp [] H H' ∧ LkS a H' y yl yr yf n (itS n s i) ∧ H' p = some (.lst ((dueL n s).map V.int)) ∧ H' g = some (.lst (((List.range i).map (mvF n s)).map V.int))) ⟨_, _, rfl, k04, hY4, hp4, hg4⟩ ?_ ?_
  · rintro i σ' H5 hi ⟨z5, z6, rfl, k5, hY5, hp5, hg5⟩
    obtain ⟨W5, no5, e5, d5, s5⟩ := itS_ok W hno i (by omega)
    obtain ⟨f1, f2, f3, f4⟩ := fl_ok W5 no5 (by omega)
    obtain ⟨m, hm, hbef⟩ := fl_due d5 f1 f2 f3 f4
    obtain ⟨hop, hab, hok⟩ := opF_ok (s := itS n s i) (v := flF n (itS n s i)) (n := n) f1 f2
    have hS : stS (itS n s i) (opF (itS n s i) (flF n (itS n s i))) = itS n s (i + 1) := rfl
    have hM : opF (itS n s i) (flF n (itS n s i)) = mvF n s i := rfl
    walk_at "w"
    refine ⟨y, yl, yr, yf, p, n, itS n s i, dueL n s, m, _, rfl, hY5, W5, hp5, by omega, fun u hu => ⟨(dueL_in u hu).1, (dueL_in u hu).2.1⟩, hm, f3, hbef, fun H6 k6 => ?_⟩
    have k06 := k5.trans0 k6
    have hY6 := hY5.kp0 k6
    have hp6 := k6.at0 hp5
    have hg6 := k6.at0 hg5
    have hy6 := hY6.1.choose_spec
    have qa := WF.at W5 (v := (opF (itS n s i) (flF n (itS n s i))).natAbs) (by rw [hab]; omega) (by rw [hab]; omega)
    have eR : ((itS n s i).1 ++ [n + 2]).getD (opF (itS n s i) (flF n (itS n s i))).natAbs default = (itS n s i).1.getD (opF (itS n s i) (flF n (itS n s i))).natAbs default := gd_app' W5 (by rw [hab]; omega)
    walk_at "w"
    refine ⟨y, yl, yr, yf, n, _, _, _, _, rfl, hY6, WF.hL W5, bk_len W5, WF.hF W5, fun z => absurd hop z, fun _ z => absurd z hok.2, fun _ _ => ⟨by omega, by omega, by omega, by omega, fun H7 hY7 k7 => ?_⟩⟩
    have ea := ap_app W5 (x := n + 2) hop
    rw [ea.1, ea.2] at hY7
    have hY7 : LkS a H7 y yl yr yf n (itS n s (i + 1)) := hY7
    have k07 := kp_new3 k06 hyl0 hyr0 hyf0 k7
    have hp7 : H7 p = some (.lst ((dueL n s).map V.int)) := k7 p _ hp6 (by
      intro z
      simp only [List.mem_cons, List.mem_nil_iff, or_false] at z
      rcases z with z | z | z
      · exact pl z
      · exact pr z
      · exact pf z)
    have hg7 : H7 g = some (.lst (((List.range i).map (mvF n s)).map V.int)) := k7 g _ hg6 (by
      intro z
      simp only [List.mem_cons, List.mem_nil_iff, or_false] at z
      rcases z with z | z | z
      · exact gY yl (by simp) z.symm
      · exact gY yr (by simp) z.symm
      · exact gY yf (by simp) z.symm)
    rw [hM]
    have hgl : (((List.range i).map (mvF n s)).map V.int).length ≤ 200 := by simp; omega
    walk_at "w"
    refine ⟨_, _, rfl, k07.own hg0, ?_, upd_get gp hp7, by rw [show (List.range (i + 1)).map (mvF n s) = (List.range i).map (mvF n s) ++ [mvF n s i] by rw [List.range_succ, List.map_append]; rfl]; exact upd_same⟩
    exact Lnk.kpS hY7 (Kp.refl.mut (ms := [g]) (by simp)) (fun z hz hzg => gY z hz (List.mem_singleton.mp hzg))
  · rintro σ' H5 ⟨z5, z6, rfl, k5, hY5, hp5, hg5⟩
    walk_at "w"
    exact k c g H5 hg0 k5 hg5
theorem low_iff {s : St3} {v lo hi : Int} (hlo : s.2.1.getD v.toNat default = lo) (hhi : s.1.getD v.toNat default = hi) : lowP s v ↔ dueP s v ∧ (lo ≠ v - 1 → s.1.getD lo.toNat default = lo + 1 → stateOf s.1 s.2.1 lo = ("joined" : Str) ∧ dueP s (lo + 1)) ∧ (hi ≠ v + 1 → s.2.1.getD hi.toNat default = hi - 1 → stateOf s.1 s.2.1 (hi - 1) = ("joined" : Str) ∧ dueP s (hi - 1)) := by
  subst hlo hhi; exact Iff.rfl
def sp__law_lowers (a : AD) : Sp := fun vs H Q _ => ∃ (w l r f : Addr) (n v : Int) (s : St3), vs = [.ref w, .int v] ∧ Bk H w l r f n s ∧ WFs n s ∧ 1 ≤ v ∧ v ≤ n ∧ Q (.bl (decide (lowP s v))) H
theorem sc__law_lowers : FnScope ["_law_book", "_law_node", "_law_low", "_law_high"] ["_law_book", "_law_node"] (defScope s__law_lowers) := ⟨rfl, rfl, rfl, by decide +kernel, rfl, by decide +kernel, by decide +kernel⟩
theorem ok__law_lowers {P : Program} {w : World} {K : PySem.W.Frag} {mg : Str → Option Value} {base : Heap} {a : AD} (T : Txt P K mg a) (G__law_is_due : FnA P w K mg base 2 a.f__law_is_due ["_law_book", "_law_node"] (sp__law_is_due a)) : FnA P w K mg base 3 a.f__law_lowers ["_law_book", "_law_node"] (sp__law_lowers a) := by
  obtain ⟨fd, F, b⟩ := T.F__law_lowers
  refine FnA.of F sc__law_lowers b (fun vs H Q E h => by first | (obtain ⟨rfl, _⟩ := h; rfl) | (obtain ⟨_, rfl, _⟩ := h; rfl) | (obtain ⟨_, _, rfl, _⟩ := h; rfl) | (obtain ⟨_, _, _, rfl, _⟩ := h; rfl) | (obtain ⟨_, _, _, _, rfl, _⟩ := h; rfl) | (obtain ⟨_, _, _, _, _, rfl, _⟩ := h; rfl) | (obtain ⟨_, _, _, _, _, _, rfl, _⟩ := h; rfl) | (obtain ⟨_, _, _, _, _, _, _, rfl, _⟩ := h; rfl) | (obtain ⟨_, _, _, _, _, _, _, _, rfl, _⟩ := h; rfl) | (obtain ⟨_, _, _, _, _, _, _, _, _, rfl, _⟩ := h; rfl) | (obtain ⟨_, _, _, _, _, _, _, _, _, _, rfl, _⟩ := h; rfl) | (obtain ⟨_, _, _, _, _, _, _, _, _, _, _, rfl, _⟩ := h; rfl) | (obtain ⟨_, _, _, _, _, _, _, _, _, _, _, _, rfl, _⟩ := h; rfl) | (obtain ⟨_, _, _, _, _, _, _, _, _, _, _, _, _, rfl, _⟩ := h; rfl) | (obtain ⟨_, _, _, _, _, _, _, _, _, _, _, _, _, _, rfl, _⟩ := h; rfl) | (obtain ⟨_, _, _, _, _, _, _, _, _, _, _, _, _, _, _, rfl, _⟩ := h; rfl) | (obtain ⟨_, _, _, _, _, _, _, _, _, _, _, _, _, _, _, _, rfl, _⟩ := h; rfl) | (obtain ⟨_, _, _, _, _, _, _, _, _, _, _, _, _, _, _, _, _, rfl, _⟩ := h; rfl) | (obtain ⟨_, _, _, _, _, _, _, _, _, _, _, _, _, _, _, _, _, _, rfl, _⟩ := h; rfl) | (obtain ⟨_, _, _, _, _, _, _, _, _, _, _, _, _, _, _, _, _, _, _, rfl, _⟩ := h; rfl) | (obtain ⟨_, _, _, _, _, _, _, _, _, _, _, _, _, _, _, _, _, _, _, _, rfl, _⟩ := h; rfl) | (obtain ⟨_, _, _, _, _, _, _, _, _, _, _, _, _, _, _, _, _, _, _, _, _, rfl, _⟩ := h; rfl) | (obtain ⟨_, _, _, _, _, _, _, _, _, _, _, _, _, _, _, _, _, _, _, _, _, _, rfl, _⟩ := h; rfl) | (obtain ⟨_, _, _, _, _, _, _, _, _, _, _, _, _, _, _, _, _, _, _, _, _, _, _, rfl, _⟩ := h; rfl)) (fun cdv A outer s H vs Q E hr tk pz h => ?_)
  have hu := hr.units
  have hrH := L2H.roomH_of hr
  obtain ⟨w, l, r, f, n, v, s, rfl, hB, W, v1, v2, k⟩ := h
  refine ⟨_, (pss_cons (ps_set (i := 2) sc__law_lowers.nd rfl (Or.inl rfl) (pe_ix ix_seq (pe_ix ix_seq (pv 0) pe_int (fun _ _ => rfl)) (pv 1) (fun _ _ => rfl)))
      (pss_cons (ps_set (i := 3) sc__law_lowers.nd rfl (Or.inl rfl) (pe_ix ix_seq (pe_ix ix_seq (pv 0) pe_int (fun _ _ => rfl)) (pv 1) (fun _ _ => rfl)))
      (pss_cons (ps_if (pt_not (pt_tru (pe_callA G__law_is_due (Room.mono hr (by decide)) T.n__law_is_due tk (pa_cons (pv 0) (pa_cons (pv 1) pa_nil))))) (pss_one (ps_ret pe_bl)) pss_nil)
      (pss_cut (ps_if (PW.pt (pw_and (pt_cmpA (o_ne hu) (pv 2) (pe_op op_sub (pv 1) pe_int) (nomark _)) (pw_and1 (pt_cmpA (o_eq hu) (pe_ix ix_seq (pe_ix ix_seq (pv 0) pe_int (fun _ _ => rfl)) (pv 2) (fun _ _ => rfl)) (pe_op o_add (pv 2) pe_int) (nomark _))))) (pss_one (ps_if (PW.pt (pw_or (pt_cmpA (o_ne hu) (pe_ix ix_seq (pe_ix ix_seq (pv 0) pe_int (fun _ _ => rfl)) (pe_op o_add (pv 2) pe_int) (fun _ _ => rfl)) (pv 2) (nomark _)) (pw_or1 (pt_not (pt_tru (pe_callA G__law_is_due (Room.mono hr (by decide)) T.n__law_is_due tk (pa_cons (pv 0) (pa_cons (pe_op o_add (pv 2) pe_int) pa_nil)))))))) (pss_one (ps_ret pe_bl)) pss_nil)) pss_nil)
      (pss_cons (ps_if (PW.pt (pw_and (pt_cmpA (o_ne hu) (pv 3) (pe_op o_add (pv 1) pe_int) (nomark _)) (pw_and1 (pt_cmpA (o_eq hu) (pe_ix ix_seq (pe_ix ix_seq (pv 0) pe_int (fun _ _ => rfl)) (pv 3) (fun _ _ => rfl)) (pe_op op_sub (pv 3) pe_int) (nomark _))))) (pss_one (ps_if (PW.pt (pw_or (pt_cmpA (o_ne hu) (pe_ix ix_seq (pe_ix ix_seq (pv 0) pe_int (fun _ _ => rfl)) (pe_op op_sub (pv 3) pe_int) (fun _ _ => rfl)) (pv 3) (nomark _)) (pw_or1 (pt_not (pt_tru (pe_callA G__law_is_due (Room.mono hr (by decide)) T.n__law_is_due tk (pa_cons (pv 0) (pa_cons (pe_op op_sub (pv 3) pe_int) pa_nil)))))))) (pss_one (ps_ret pe_bl)) pss_nil)) pss_nil)
      (pss_one (ps_ret pe_bl))))))), ?_⟩
  show (_ : Ends → L2.St → Hp → Prop) _ [some _, some _, none, none] _
  try dsimp only [L2H.cxH, cxOf]
  obtain ⟨hw, hl, hr', hf, _⟩ := id hB
  have n0 := WF.n0 W
  have n1 := WF.n1 W
  have hF := WF.hF W
  have hLl := WF.hL W
  have hla := bk_len W
  have q := WF.at W (v := v.toNat) (by omega) (by omega)
  rw [show ((v.toNat : Nat) : Int) = v by omega] at q
  have eR := gd_app' W (x := n + 2) (i := v.toNat) (by omega)
  have eRl := gd_app' W (x := n + 2) (i := (s.2.1.getD v.toNat default).toNat) (by omega)
  have eRh := gd_app' W (x := n + 2) (i := (s.1.getD v.toNat default - 1).toNat) (by omega)
  generalize hlo : s.2.1.getD v.toNat default = lo at q eRl
  generalize hhi : s.1.getD v.toNat default = hi at q eR eRh
  have kl := low_iff hlo hhi
  have jl := state_joined (R := s.1) (L := s.2.1) (g := lo)
  have jh := state_joined (R := s.1) (L := s.2.1) (g := hi - 1)
  rw [show hi - 1 + 1 = hi by omega] at jh
  walk_at "w"
  rw [hlo, eR]
  walk_at "w"
  refine ⟨w, l, r, f, n, v, s, rfl, hB, W, v1, v2, ?_⟩
  by_cases hd : dueP s v
  · rw [show decide (dueP s v) = true by simpa using hd]
    walk_at "w"
    refine s_cut (fun σ' H' => H' = H ∧ σ' = [some (.ref w), some (.int v), some (.int lo), some (.int hi)] ∧ (lo ≠ v - 1 → s.1.getD lo.toNat default = lo + 1 → stateOf s.1 s.2.1 lo = ("joined" : Str) ∧ dueP s (lo + 1))) ?_ ?_
    · walk_at "w"
      refine w_iteN (fun c1 => ?_) (fun c1 => ?_)
      · walk_at "w"
        rw [eRl]
        refine w_ite (fun c2 => ?_) (fun c2 => ?_)
        · walk_at "w"
          refine w_iteN (fun c3 => ?_) (fun c3 => ?_)
          · walk_at "w"
            rw [decide_eq_false (fun z => c3 (jl.mp ((kl.mp z).2.1 c1 c2).1).2)] at k
            exact k
          · walk_at "w"
            refine ⟨w, l, r, f, n, lo + 1, s, rfl, hB, W, by omega, by omega, ?_⟩
            by_cases c4 : dueP s (lo + 1)
            · rw [show decide (dueP s (lo + 1)) = true by simpa using c4]
              walk_at "w"
              exact ⟨rfl, rfl, fun _ _ => ⟨jl.mpr ⟨c2, c3⟩, c4⟩⟩
            · rw [show decide (dueP s (lo + 1)) = false by simpa using c4]
              walk_at "w"
              rw [decide_eq_false (fun z => c4 ((kl.mp z).2.1 c1 c2).2)] at k
              exact k
        · walk_at "w"
          exact ⟨rfl, rfl, fun _ z => absurd z c2⟩
      · walk_at "w"
        exact ⟨rfl, rfl, fun z => absurd c1 z⟩
    rintro σ' H' ⟨e, rfl, hA⟩
    subst e
    walk_at "w"
    refine w_iteN (fun c1 => ?_) (fun c1 => ?_)
    · walk_at "w"
      refine w_ite (fun c2 => ?_) (fun c2 => ?_)
      · walk_at "w"
        rw [eRh]
        refine w_iteN (fun c3 => ?_) (fun c3 => ?_)
        · walk_at "w"
          rw [decide_eq_false (fun z => c3 (jh.mp ((kl.mp z).2.2 c1 c2).1).1)] at k
          exact k
        · walk_at "w"
          refine ⟨w, l, r, f, n, hi - 1, s, rfl, hB, W, by omega, by omega, ?_⟩
          by_cases c4 : dueP s (hi - 1)
          · rw [show decide (dueP s (hi - 1)) = true by simpa using c4]
            walk_at "w"
            rw [decide_eq_true (kl.mpr ⟨hd, hA, fun _ _ => ⟨jh.mpr ⟨c3, c2⟩, c4⟩⟩)] at k
            exact k
          · rw [show decide (dueP s (hi - 1)) = false by simpa using c4]
            walk_at "w"
            rw [decide_eq_false (fun z => c4 ((kl.mp z).2.2 c1 c2).2)] at k
            exact k
      · walk_at "w"
        rw [decide_eq_true (kl.mpr ⟨hd, hA, fun _ z => absurd z c2⟩)] at k
        exact k
    · walk_at "w"
      rw [decide_eq_true (kl.mpr ⟨hd, hA, fun z => absurd c1 z⟩)] at k
      exact k
  · rw [show decide (dueP s v) = false by simpa using hd]
    walk_at "w"
    rw [decide_eq_false (fun z => hd (kl.mp z).1)] at k
    exact k
/-! ### dumps told while an exception is handled -/
theorem sch_Links__dump_parts : FnScope ["self", "link", "rights", "lefts", "node", "outs"] ["self"] (defScope s_Links__dump_parts) := ⟨rfl, rfl, rfl, by decide +kernel, rfl, by decide +kernel, by decide +kernel⟩
theorem hk_Links__dump_parts {P : Program} {w : World} {K : PySem.W.Frag} {mg : Str → Option Value} {base : Heap} {a : AD} (T : Txt P K mg a) : FnHA P w K mg base 2 a.f_Links__dump_parts ["self"] (sp_Links__dump_parts a) := by
  obtain ⟨fd, F, b⟩ := T.F_Links__dump_parts
  refine FnHA.of F sch_Links__dump_parts b (fun vs H Q E h => by first | (obtain ⟨rfl, _⟩ := h; rfl) | (obtain ⟨_, rfl, _⟩ := h; rfl) | (obtain ⟨_, _, rfl, _⟩ := h; rfl) | (obtain ⟨_, _, _, rfl, _⟩ := h; rfl) | (obtain ⟨_, _, _, _, rfl, _⟩ := h; rfl) | (obtain ⟨_, _, _, _, _, rfl, _⟩ := h; rfl) | (obtain ⟨_, _, _, _, _, _, rfl, _⟩ := h; rfl) | (obtain ⟨_, _, _, _, _, _, _, rfl, _⟩ := h; rfl) | (obtain ⟨_, _, _, _, _, _, _, _, rfl, _⟩ := h; rfl) | (obtain ⟨_, _, _, _, _, _, _, _, _, rfl, _⟩ := h; rfl) | (obtain ⟨_, _, _, _, _, _, _, _, _, _, rfl, _⟩ := h; rfl) | (obtain ⟨_, _, _, _, _, _, _, _, _, _, _, rfl, _⟩ := h; rfl) | (obtain ⟨_, _, _, _, _, _, _, _, _, _, _, _, rfl, _⟩ := h; rfl) | (obtain ⟨_, _, _, _, _, _, _, _, _, _, _, _, _, rfl, _⟩ := h; rfl) | (obtain ⟨_, _, _, _, _, _, _, _, _, _, _, _, _, _, rfl, _⟩ := h; rfl) | (obtain ⟨_, _, _, _, _, _, _, _, _, _, _, _, _, _, _, rfl, _⟩ := h; rfl) | (obtain ⟨_, _, _, _, _, _, _, _, _, _, _, _, _, _, _, _, rfl, _⟩ := h; rfl) | (obtain ⟨_, _, _, _, _, _, _, _, _, _, _, _, _, _, _, _, _, rfl, _⟩ := h; rfl) | (obtain ⟨_, _, _, _, _, _, _, _, _, _, _, _, _, _, _, _, _, _, rfl, _⟩ := h; rfl) | (obtain ⟨_, _, _, _, _, _, _, _, _, _, _, _, _, _, _, _, _, _, _, rfl, _⟩ := h; rfl) | (obtain ⟨_, _, _, _, _, _, _, _, _, _, _, _, _, _, _, _, _, _, _, _, rfl, _⟩ := h; rfl) | (obtain ⟨_, _, _, _, _, _, _, _, _, _, _, _, _, _, _, _, _, _, _, _, _, rfl, _⟩ := h; rfl) | (obtain ⟨_, _, _, _, _, _, _, _, _, _, _, _, _, _, _, _, _, _, _, _, _, _, rfl, _⟩ := h; rfl) | (obtain ⟨_, _, _, _, _, _, _, _, _, _, _, _, _, _, _, _, _, _, _, _, _, _, _, rfl, _⟩ := h; rfl)) (fun cdv A outer s H vs Q E pin hot1 hrH hot pz h => ?_)
  have hu := roomH_units hrH
  obtain ⟨x, l, r, f, n, L, R, F, rfl, hL, w, k⟩ := h
  obtain ⟨⟨dx, hx⟩, hl, hr', hf, _⟩ := id hL
  have n0 := w.n0
  have n1 := w.n1
  have w1 := w.hR
  have w2 := w.hL
  have w3 := w.hF
  refine ⟨_, (pss_cons (ps_setLcH (i := 2) (own := [("link", 1)]) (g := (gName 1)) (tt := tYes) hot sc_Links__dump_parts.nd rfl rfl (sw_true rfl rfl rfl (by decide +kernel)) (pi_listH (pe_slice sl_any (pe_fld (pv 0) rfl) po_none (po_some (pe_un un_neg pe_int)))) (blkOk_by (own := [("link", 1)]) (N := ["self", "link", "rights", "lefts", "node", "outs"]) (sc := defScope s_Links__dump_parts) (by decide +kernel)) (fun _ _ _ _ _ => (pg_name (i := 1) sc_Links__dump_parts.nd rfl (Or.inl rfl))) (fun _ _ _ _ _ => pts_nil) (fun _ _ _ _ _ => (pe_callTy b_str rfl T.b_str (by decide +kernel) (pa_cons (pv 1) pa_nil))))
      (pss_cons (ps_setLcH (i := 3) (own := [("link", 1)]) (g := (gName 1)) (tt := tYes) hot sc_Links__dump_parts.nd rfl rfl (sw_true rfl rfl rfl (by decide +kernel)) (pi_listH (pe_slice sl_any (pe_fld (pv 0) rfl) (po_some pe_int) po_none)) (blkOk_by (own := [("link", 1)]) (N := ["self", "link", "rights", "lefts", "node", "outs"]) (sc := defScope s_Links__dump_parts) (by decide +kernel)) (fun _ _ _ _ _ => (pg_name (i := 1) sc_Links__dump_parts.nd rfl (Or.inl rfl))) (fun _ _ _ _ _ => pts_nil) (fun _ _ _ _ _ => (pe_callTy b_str rfl T.b_str (by decide +kernel) (pa_cons (pv 1) pa_nil))))
      (pss_cons (ps_setLcH (i := 5) (own := [("node", 4)]) (g := (gName 4)) hot sc_Links__dump_parts.nd rfl rfl (sw_true rfl rfl rfl (by decide +kernel)) (pi_range2H rfl T.b_range (pa_cons pe_int (pa_cons (pe_op o_add (pe_fld (pv 0) rfl) pe_int) pa_nil))) (blkOk_by (own := [("node", 4)]) (N := ["self", "link", "rights", "lefts", "node", "outs"]) (sc := defScope s_Links__dump_parts) (by decide +kernel)) (fun _ _ _ _ _ => (pg_name (i := 4) sc_Links__dump_parts.nd rfl (Or.inl rfl))) (fun _ _ _ _ _ => (pts_one (show PT _ _ (cTru K _) from (pt_tru (pe_ix (show IxR _ (rIx K) from ix_seq) (show PE _ _ (tFld K _ _) from (pe_fld (pv 0) rfl)) (pv 4) (fun _ _ => rfl)))))) (fun _ _ _ _ _ => (pe_callTy b_str rfl T.b_str (by decide +kernel) (pa_cons (pv 4) pa_nil))))
      (pss_one (ps_ret (pe_lst (pa_cons (pe_bm PySem.F.plainAttrs_str PySem.F.slot_str_join PySem.F.type_str_join m_join pe_str (pa_cons (pv 2) pa_nil)) (pa_cons (pe_bm PySem.F.plainAttrs_str PySem.F.slot_str_join PySem.F.type_str_join m_join pe_str (pa_cons (pv 3) pa_nil)) (pa_cons (pe_ifExp (pt_cmpA op_gt (pe_callB (b_len) rfl T.b_len (by decide +kernel) (pa_cons (pv 5) pa_nil)) pe_int (nomark _)) (pe_bm PySem.F.plainAttrs_str PySem.F.slot_str_join PySem.F.type_str_join m_join pe_str (pa_cons (pv 5) pa_nil)) pe_str) pa_nil))))))))), ?_⟩
  show (_ : Ends → L2.St → Hp → Prop) _ [some _, none, none, none, none, none] _
  try dsimp only [L2H.cxH, cxOf]
  walk_at "w"
  rw [cut_last]
  intro r1 hr1
  have kr : Kp [] H (upd H r1 (.lst (R.map V.int))) := Kp.refl.new hr1
  have hr11 : upd H r1 (.lst (R.map V.int)) r1 = some (.lst (R.map V.int)) := upd_same
  generalize upd H r1 (.lst (R.map V.int)) = H1 at kr hr11
  refine w_lcM (us := R) (f := V.int) (f' := V.str) (fun o => some (strI o)) hr11 (by rw [sizeLine_eq]; omega) ?_ ?_
  · intro D i u acc H' hD hu hk hA hlen
    have hub := w.rs u (List.mem_of_getElem? hu)
    walk_at "w"
    refine ⟨rfl, ?_⟩
    walk_at "w"
    exact w_keep hk hA hlen hD rfl
  · intro d1 H2 hd1 hk2 hA2
    rw [fm_some] at hA2
    have k2 := kr.trans hk2
    have hx2 := k2.at0 hx
    have hl2 := k2.at0 hl
    have hf2 := k2.at0 hf
    walk_at "w"
    rw [cut_tail]
    intro r3 hr3
    have d13 : d1 ≠ r3 := ne_of_none hA2 hr3
    have k3 : Kp [] H (upd H2 r3 (.lst ((L.drop 1).map V.int))) := k2.new hr3
    have hr33 : upd H2 r3 (.lst ((L.drop 1).map V.int)) r3 = some (.lst ((L.drop 1).map V.int)) := upd_same
    have hd3 : upd H2 r3 (.lst ((L.drop 1).map V.int)) d1 = some (.lst ((R.map strI).map V.str)) := upd_get d13 hA2
    generalize upd H2 r3 (.lst ((L.drop 1).map V.int)) = H3 at k3 hr33 hd3
    refine w_lcM (us := L.drop 1) (f := V.int) (f' := V.str) (fun o => some (strI o)) hr33 (by rw [sizeLine_eq, List.length_drop]; omega) ?_ ?_
    · intro D i u acc H' hD hu hk hA hlen
      have hub := w.ls u (List.mem_of_getElem? hu)
      walk_at "w"
      refine ⟨rfl, ?_⟩
      walk_at "w"
      exact w_keep hk hA hlen hD rfl
    · intro d2 H4 hd2 hk4 hA4
      rw [fm_some] at hA4
      have hd14 := hk4.at0 hd3
      have k4 := k3.trans hk4
      have hx4 := k4.at0 hx
      have hf4 := k4.at0 hf
      walk_at "w"
      refine w_lcR2 (f' := V.str) (fun i : Nat => if F.getD (i + 1) default = true then some (strI (1 + (i : Int))) else none) (lo := 1) (n := n + 1) (by omega) (by omega) (by omega) (by omega) (by rw [sizeLine_eq]; omega) ?_ ?_
      · intro D i acc H' hD hi hk hA hlen
        have hx5 := hk.at0 hx4
        have hf5 := hk.at0 hf4
        walk_at "w"
        refine ⟨rfl, ?_⟩
        walk_at "w"
        rw [show (1 + (i : Int)).toNat = i + 1 by omega]
        refine w_iteb (fun c => ?_) (fun c => ?_)
        · walk_at "w"
          exact w_keep hk hA hlen hD (by rw [if_pos c]; rfl)
        · walk_at "w"
          exact w_drop hk hA (by rw [if_neg (by rw [c]; exact Bool.false_ne_true)])
      · intro d3 H5 hd3' hk5 hA5
        have eo : (List.range (n + 1 - 1).toNat).filterMap (fun i : Nat => if F.getD (i + 1) default = true then some (strI (1 + (i : Int))) else none) = (outL n F).map strI := by
          unfold outL
          rw [List.map_filterMap, show (n + 1 - 1).toNat = n.toNat by omega]
          apply fm_congr
          intro i _
          split <;> rfl
        rw [eo] at hA5
        have hd15 := hk5.at0 hd14
        have hd25 := hk5.at0 hA4
        have k5 := k4.trans hk5
        have s1 := (nums_len w.rs).2
        have s2 := (nums_len w.ls).2
        have s3 := (nums_len w.os).2
        have ol := outL_len n F
        have sp1 : (" " : Str).length = 1 := by decide +kernel
        have b1 : ((R.map strI).map (·.length)).sum + (R.map strI).length * (" " : Str).length ≤ 16777216 := by rw [sp1, List.length_map]; omega
        have b2 : (((L.drop 1).map strI).map (·.length)).sum + ((L.drop 1).map strI).length * (" " : Str).length ≤ 16777216 := by rw [sp1, List.length_map]; rw [List.length_drop] at s2 ⊢; omega
        have b3 : (((outL n F).map strI).map (·.length)).sum + ((outL n F).map strI).length * (" " : Str).length ≤ 16777216 := by rw [sp1, List.length_map]; omega
        walk_at "w"
        unfold goneT at k
        refine w_ite (fun c => ?_) (fun c => ?_)
        · walk_at "w"
          intro p hp
          rw [if_neg (fun e => by rw [e] at c; simp at c)] at k
          exact k p _ (k5.free hp) (k5.new hp) upd_same
        · walk_at "w"
          intro p hp
          have e : outL n F = [] := by
            cases q : outL n F with
            | nil => rfl
            | cons o os => rw [q] at c; simp at c
          rw [if_pos e] at k
          exact k p _ (k5.free hp) (k5.new hp) upd_same
theorem sch_Links_dump : FnScope ["self"] ["self"] (defScope s_Links_dump) := ⟨rfl, rfl, rfl, by decide +kernel, rfl, by decide +kernel, by decide +kernel⟩
theorem hk_Links_dump {P : Program} {w : World} {K : PySem.W.Frag} {mg : Str → Option Value} {base : Heap} {a : AD} (T : Txt P K mg a) (H_Links__dump_parts : FnHA P w K mg base 2 a.f_Links__dump_parts ["self"] (sp_Links__dump_parts a)) : FnHA P w K mg base 3 a.f_Links_dump ["self"] (sp_Links_dump a) := by
  obtain ⟨fd, F, b⟩ := T.F_Links_dump
  refine FnHA.of F sch_Links_dump b (fun vs H Q E h => by first | (obtain ⟨rfl, _⟩ := h; rfl) | (obtain ⟨_, rfl, _⟩ := h; rfl) | (obtain ⟨_, _, rfl, _⟩ := h; rfl) | (obtain ⟨_, _, _, rfl, _⟩ := h; rfl) | (obtain ⟨_, _, _, _, rfl, _⟩ := h; rfl) | (obtain ⟨_, _, _, _, _, rfl, _⟩ := h; rfl) | (obtain ⟨_, _, _, _, _, _, rfl, _⟩ := h; rfl) | (obtain ⟨_, _, _, _, _, _, _, rfl, _⟩ := h; rfl) | (obtain ⟨_, _, _, _, _, _, _, _, rfl, _⟩ := h; rfl) | (obtain ⟨_, _, _, _, _, _, _, _, _, rfl, _⟩ := h; rfl) | (obtain ⟨_, _, _, _, _, _, _, _, _, _, rfl, _⟩ := h; rfl) | (obtain ⟨_, _, _, _, _, _, _, _, _, _, _, rfl, _⟩ := h; rfl) | (obtain ⟨_, _, _, _, _, _, _, _, _, _, _, _, rfl, _⟩ := h; rfl) | (obtain ⟨_, _, _, _, _, _, _, _, _, _, _, _, _, rfl, _⟩ := h; rfl) | (obtain ⟨_, _, _, _, _, _, _, _, _, _, _, _, _, _, rfl, _⟩ := h; rfl) | (obtain ⟨_, _, _, _, _, _, _, _, _, _, _, _, _, _, _, rfl, _⟩ := h; rfl) | (obtain ⟨_, _, _, _, _, _, _, _, _, _, _, _, _, _, _, _, rfl, _⟩ := h; rfl) | (obtain ⟨_, _, _, _, _, _, _, _, _, _, _, _, _, _, _, _, _, rfl, _⟩ := h; rfl) | (obtain ⟨_, _, _, _, _, _, _, _, _, _, _, _, _, _, _, _, _, _, rfl, _⟩ := h; rfl) | (obtain ⟨_, _, _, _, _, _, _, _, _, _, _, _, _, _, _, _, _, _, _, rfl, _⟩ := h; rfl) | (obtain ⟨_, _, _, _, _, _, _, _, _, _, _, _, _, _, _, _, _, _, _, _, rfl, _⟩ := h; rfl) | (obtain ⟨_, _, _, _, _, _, _, _, _, _, _, _, _, _, _, _, _, _, _, _, _, rfl, _⟩ := h; rfl) | (obtain ⟨_, _, _, _, _, _, _, _, _, _, _, _, _, _, _, _, _, _, _, _, _, _, rfl, _⟩ := h; rfl) | (obtain ⟨_, _, _, _, _, _, _, _, _, _, _, _, _, _, _, _, _, _, _, _, _, _, _, rfl, _⟩ := h; rfl)) (fun cdv A outer s H vs Q E pin hot1 hrH hot pz h => ?_)
  have hu := roomH_units hrH
  obtain ⟨x, l, r, f, n, L, R, F, rfl, hL, w, k⟩ := h
  have hx := hL.1.choose_spec
  refine ⟨_, (pss_one (ps_ret (pe_bm PySem.F.plainAttrs_str PySem.F.slot_str_join PySem.F.type_str_join m_join pe_str (pa_cons (pe_methHS0 (pl := _) H_Links__dump_parts (L2H.RoomH.mono hrH (by decide)) hot T.cl_Links T.me_Links__dump_parts (pv 0)) pa_nil)))), ?_⟩
  show (_ : Ends → L2.St → Hp → Prop) _ [some _] _
  try dsimp only [L2H.cxH, cxOf]
  have hb : (" | " : Str).length = 3 := by decide +kernel
  have htl := text_len w
  walk_at "w"
  refine ⟨x, l, r, f, n, L, R, F, rfl, hL, w, fun p H1 hp k1 hp1 => ?_⟩
  walk_at "w"
  refine w_join hp1 ?_ ?_
  · rw [hb]
    simp only [List.map_cons, List.map_nil, List.sum_cons, List.sum_nil, List.length_cons, List.length_nil]
    omega
  · rw [join_three]
    exact k H1 k1

theorem sch__law_dump : FnScope ["_law_book", "_law_link", "_law_rights", "_law_lefts", "_law_node", "_law_outs"] ["_law_book"] (defScope s__law_dump) := ⟨rfl, rfl, rfl, by decide +kernel, rfl, by decide +kernel, by decide +kernel⟩
theorem hk__law_dump {P : Program} {w : World} {K : PySem.W.Frag} {mg : Str → Option Value} {base : Heap} {a : AD} (T : Txt P K mg a) : FnHA P w K mg base 2 a.f__law_dump ["_law_book"] (sp__law_dump a) := by
  obtain ⟨fd, F, b⟩ := T.F__law_dump
  refine FnHA.of F sch__law_dump b (fun vs H Q E h => by first | (obtain ⟨rfl, _⟩ := h; rfl) | (obtain ⟨_, rfl, _⟩ := h; rfl) | (obtain ⟨_, _, rfl, _⟩ := h; rfl) | (obtain ⟨_, _, _, rfl, _⟩ := h; rfl) | (obtain ⟨_, _, _, _, rfl, _⟩ := h; rfl) | (obtain ⟨_, _, _, _, _, rfl, _⟩ := h; rfl) | (obtain ⟨_, _, _, _, _, _, rfl, _⟩ := h; rfl) | (obtain ⟨_, _, _, _, _, _, _, rfl, _⟩ := h; rfl) | (obtain ⟨_, _, _, _, _, _, _, _, rfl, _⟩ := h; rfl) | (obtain ⟨_, _, _, _, _, _, _, _, _, rfl, _⟩ := h; rfl) | (obtain ⟨_, _, _, _, _, _, _, _, _, _, rfl, _⟩ := h; rfl) | (obtain ⟨_, _, _, _, _, _, _, _, _, _, _, rfl, _⟩ := h; rfl) | (obtain ⟨_, _, _, _, _, _, _, _, _, _, _, _, rfl, _⟩ := h; rfl) | (obtain ⟨_, _, _, _, _, _, _, _, _, _, _, _, _, rfl, _⟩ := h; rfl) | (obtain ⟨_, _, _, _, _, _, _, _, _, _, _, _, _, _, rfl, _⟩ := h; rfl) | (obtain ⟨_, _, _, _, _, _, _, _, _, _, _, _, _, _, _, rfl, _⟩ := h; rfl) | (obtain ⟨_, _, _, _, _, _, _, _, _, _, _, _, _, _, _, _, rfl, _⟩ := h; rfl) | (obtain ⟨_, _, _, _, _, _, _, _, _, _, _, _, _, _, _, _, _, rfl, _⟩ := h; rfl) | (obtain ⟨_, _, _, _, _, _, _, _, _, _, _, _, _, _, _, _, _, _, rfl, _⟩ := h; rfl) | (obtain ⟨_, _, _, _, _, _, _, _, _, _, _, _, _, _, _, _, _, _, _, rfl, _⟩ := h; rfl) | (obtain ⟨_, _, _, _, _, _, _, _, _, _, _, _, _, _, _, _, _, _, _, _, rfl, _⟩ := h; rfl) | (obtain ⟨_, _, _, _, _, _, _, _, _, _, _, _, _, _, _, _, _, _, _, _, _, rfl, _⟩ := h; rfl) | (obtain ⟨_, _, _, _, _, _, _, _, _, _, _, _, _, _, _, _, _, _, _, _, _, _, rfl, _⟩ := h; rfl) | (obtain ⟨_, _, _, _, _, _, _, _, _, _, _, _, _, _, _, _, _, _, _, _, _, _, _, rfl, _⟩ := h; rfl)) (fun cdv A outer s H vs Q E pin hot1 hrH hot pz h => ?_)
  have hu := roomH_units hrH
  obtain ⟨w, l, r, f, n, ⟨R, L, F⟩, rfl, ⟨hw, hl, hr', hf, _⟩, W, k⟩ := h
  refine ⟨_, (pss_cons (ps_set (i := 2) sc__law_dump.nd rfl (Or.inl rfl) (pe_bm PySem.F.plainAttrs_str PySem.F.slot_str_join PySem.F.type_str_join m_join pe_str (pa_cons (pe_lcH (own := [("_law_link", 1)]) (g := (gName 1)) (tt := tYes) hot sc__law_dump.nd (pi_listH (pe_slice sl_any (pe_ix ix_seq (pv 0) pe_int (fun _ _ => rfl)) po_none (po_some (pe_op o_add (pe_ix ix_seq (pv 0) pe_int (fun _ _ => rfl)) pe_int)))) (blkOk_by (own := [("_law_link", 1)]) (N := ["_law_book", "_law_link", "_law_rights", "_law_lefts", "_law_node", "_law_outs"]) (sc := defScope s__law_dump) (by decide +kernel)) (fun _ _ _ _ _ => (pg_name (i := 1) sc__law_dump.nd rfl (Or.inl rfl))) (fun _ _ _ _ _ => pts_nil) (fun _ _ _ _ _ => (pe_callTy b_str rfl T.b_str (by decide +kernel) (pa_cons (pv 1) pa_nil)))) pa_nil)))
      (pss_cons (ps_set (i := 3) sc__law_dump.nd rfl (Or.inl rfl) (pe_bm PySem.F.plainAttrs_str PySem.F.slot_str_join PySem.F.type_str_join m_join pe_str (pa_cons (pe_lcH (own := [("_law_link", 1)]) (g := (gName 1)) (tt := tYes) hot sc__law_dump.nd (pi_listH (pe_slice sl_any (pe_ix ix_seq (pv 0) pe_int (fun _ _ => rfl)) (po_some pe_int) po_none)) (blkOk_by (own := [("_law_link", 1)]) (N := ["_law_book", "_law_link", "_law_rights", "_law_lefts", "_law_node", "_law_outs"]) (sc := defScope s__law_dump) (by decide +kernel)) (fun _ _ _ _ _ => (pg_name (i := 1) sc__law_dump.nd rfl (Or.inl rfl))) (fun _ _ _ _ _ => pts_nil) (fun _ _ _ _ _ => (pe_callTy b_str rfl T.b_str (by decide +kernel) (pa_cons (pv 1) pa_nil)))) pa_nil)))
      (pss_cons (ps_set (i := 5) sc__law_dump.nd rfl (Or.inl rfl) (pe_bm PySem.F.plainAttrs_str PySem.F.slot_str_join PySem.F.type_str_join m_join pe_str (pa_cons (pe_lcH (own := [("_law_node", 4)]) (g := (gName 4)) hot sc__law_dump.nd (L2H.pi_range1H rfl T.b_range (pa_cons (pe_op o_add (pe_ix ix_seq (pv 0) pe_int (fun _ _ => rfl)) pe_int) pa_nil)) (blkOk_by (own := [("_law_node", 4)]) (N := ["_law_book", "_law_link", "_law_rights", "_law_lefts", "_law_node", "_law_outs"]) (sc := defScope s__law_dump) (by decide +kernel)) (fun _ _ _ _ _ => (pg_name (i := 4) sc__law_dump.nd rfl (Or.inl rfl))) (fun _ _ _ _ _ => (pts_one (show PT _ _ (cTru K _) from (pt_tru (pe_ix (show IxR _ (rIx K) from ix_seq) (pe_ix (show IxR _ (rIx K) from ix_seq) (pv 0) pe_int (fun _ _ => rfl)) (pv 4) (fun _ _ => rfl)))))) (fun _ _ _ _ _ => (pe_callTy b_str rfl T.b_str (by decide +kernel) (pa_cons (pv 4) pa_nil)))) pa_nil)))
      (pss_cut (ps_if (pt_cmpA (o_eq hu) (pv 5) pe_str (nomark _)) (pss_one (ps_set (i := 5) sc__law_dump.nd rfl (Or.inl rfl) pe_str)) pss_nil)
      (pss_one (ps_ret (pe_op o_add (pe_op o_add (pe_op o_add (pe_op o_add (pv 2) pe_str) (pv 3)) pe_str) (pv 5)))))))), ?_⟩
  show (_ : Ends → L2.St → Hp → Prop) _ [some _, none, none, none, none, none] _
  try dsimp only [L2H.cxH, cxOf]
  have W : WF n R L F := W
  have hl : H l = some (.lst (L.map V.int)) := hl
  have hr' : H r = some (.lst ((R ++ [n + 2]).map V.int)) := hr'
  have hf : H f = some (.lst (F.map V.bl)) := hf
  have k : ∀ H', Kp [] H H' → Q (.str (textOf n R L F)) H' := k
  have n0 := W.n0
  have n1 := W.n1
  have w1 := W.hR
  have w2 := W.hL
  have w3 := W.hF
  have htl := text_len W
  have sp1 : (" " : Str).length = 1 := by decide +kernel
  have s1 := (nums_len W.rs).2
  have s2 := (nums_len W.ls).2
  have s3 := (nums_len W.os).2
  have ol := outL_len n F
  have b1 : ((R.map strI).map (·.length)).sum + (R.map strI).length * (" " : Str).length ≤ 16777216 := by rw [sp1, List.length_map]; omega
  have b2 : (((L.drop 1).map strI).map (·.length)).sum + ((L.drop 1).map strI).length * (" " : Str).length ≤ 16777216 := by rw [sp1, List.length_map]; rw [List.length_drop] at s2 ⊢; omega
  have b3 : (((outL n F).map strI).map (·.length)).sum + ((outL n F).map strI).length * (" " : Str).length ≤ 16777216 := by rw [sp1, List.length_map]; omega
  have ecut : cut (R ++ [n + 2]) none (some (n + 1)) = R := by
    unfold cut HT.sIx
    dsimp only
    rw [if_neg (by omega), List.drop_zero, Nat.sub_zero, Nat.min_eq_left (by rw [List.length_append]; simp; omega), List.take_append_of_le_length (by omega), List.take_of_length_le (by omega)]
  walk_at "w"
  rw [ecut]
  intro t0 ht0
  have k0 : Kp [] H (upd H t0 (.lst (R.map V.int))) := Kp.refl.new ht0
  have ht01 : upd H t0 (.lst (R.map V.int)) t0 = some (.lst (R.map V.int)) := upd_same
  generalize upd H t0 (.lst (R.map V.int)) = H0 at k0 ht01 ⊢
  walk_at "w"
  refine w_lcM (us := R) (f := V.int) (f' := V.str) (fun o => some (strI o)) ht01 (by rw [sizeLine_eq]; omega) ?_ ?_
  · intro D i u acc H' hD hu hk hA hlen
    have hub := W.rs u (List.mem_of_getElem? hu)
    walk_at "w"
    refine ⟨rfl, ?_⟩
    walk_at "w"
    exact w_keep hk hA hlen hD rfl
  intro d1 H1 hd1 hk1 hA1
  rw [fm_some] at hA1
  have k1 := k0.trans0 hk1
  have hw1 := k1.at0 hw
  have hl1 := k1.at0 hl
  walk_at "w"
  rw [cut_tail]
  intro t ht
  have k4 : Kp [] H (upd H1 t (.lst ((L.drop 1).map V.int))) := k1.new ht
  have ht4 : upd H1 t (.lst ((L.drop 1).map V.int)) t = some (.lst ((L.drop 1).map V.int)) := upd_same
  generalize upd H1 t (.lst ((L.drop 1).map V.int)) = H4 at k4 ht4 ⊢
  walk_at "w"
  refine w_lcM (us := L.drop 1) (f := V.int) (f' := V.str) (fun o => some (strI o)) ht4 (by rw [sizeLine_eq, List.length_drop]; omega) ?_ ?_
  · intro D i u acc H' hD hu hk hA hlen
    have hub := W.ls u (List.mem_of_getElem? hu)
    walk_at "w"
    refine ⟨rfl, ?_⟩
    walk_at "w"
    exact w_keep hk hA hlen hD rfl
  intro d2 H5 hd2 hk5 hA5
  rw [fm_some] at hA5
  have k5 := k4.trans0 hk5
  have hw5 := k5.at0 hw
  have hf5 := k5.at0 hf
  walk_at "w"
  refine w_lcR1 (f' := V.str) (fun i : Nat => if F.getD i default = true then some (strI (i : Int)) else none) (n := n + 1) (by omega) (by omega) (by rw [sizeLine_eq]; omega) ?_ ?_
  · intro D i acc H' hD hi hk hA hlen
    have hw6 := hk.at0 hw5
    have hf6 := hk.at0 hf5
    walk_at "w"
    refine ⟨rfl, ?_⟩
    walk_at "w"
    rw [Int.toNat_natCast]
    refine w_iteb (fun c => ?_) (fun c => ?_)
    · walk_at "w"
      exact w_keep hk hA hlen hD (by rw [if_pos c]; rfl)
    · walk_at "w"
      exact w_drop hk hA (by rw [if_neg (by rw [c]; exact Bool.false_ne_true)])
  intro g H6 hg hk6 hG
  rw [outs0 n0 W.f0] at hG
  have k6 := k5.trans0 hk6
  walk_at "w"
  refine s_cut (fun σ' H2 => H2 = H6 ∧ ∃ z1 z4, σ' = [some (.ref w), z1, some (.str (Txt.join " " (R.map strI))), some (.str (Txt.join " " ((L.drop 1).map strI))), z4, some (.str (goneT n F))]) ?_ ?_
  · walk_at "w"
    unfold goneT
    by_cases e : outL n F = []
    · rw [if_pos e, e]
      rw [show decide (Txt.join " " (([] : List Int).map strI) = ("" : Str)) = true by decide +kernel]
      walk_at "w"
      exact ⟨rfl, _, _, rfl⟩
    · rw [if_neg e, show decide (Txt.join " " ((outL n F).map strI) = ("" : Str)) = false by simpa using join_ne e (fun u hu => by have := (outL_mem hu).1; omega)]
      walk_at "w"
      exact ⟨rfl, _, _, rfl⟩
  · rintro σ' H2 ⟨e, z1, z4, rfl⟩
    subst e
    have hb : (" | " : Str).length = 3 := by decide +kernel
    have l1 : (Txt.join " " (R.map strI) ++ " | ").length = (Txt.join " " (R.map strI)).length + 3 := by rw [len_app, hb]
    have l2 : (Txt.join " " (R.map strI) ++ " | " ++ Txt.join " " ((L.drop 1).map strI)).length = (Txt.join " " (R.map strI)).length + 3 + (Txt.join " " ((L.drop 1).map strI)).length := by rw [len_app, l1]
    have l3 : (Txt.join " " (R.map strI) ++ " | " ++ Txt.join " " ((L.drop 1).map strI) ++ " | ").length = (Txt.join " " (R.map strI)).length + 3 + (Txt.join " " ((L.drop 1).map strI)).length + 3 := by rw [len_app, l2, hb]
    walk_at "w"
    exact k H2 k6

/-! ### is this the first repair -/
theorem mv_ok {n : Int} {s : St3} (W : WFs n s) (h : noLost n s) {i : Nat} (hi : (i : Int) < debtF n s) : ((mvF n s i).natAbs : Int) = flF n (itS n s i) ∧ 1 ≤ flF n (itS n s i) ∧ flF n (itS n s i) ≤ n := by
  obtain ⟨W1, h1, e1, _, _⟩ := itS_ok W h i (by omega)
  obtain ⟨f1, f2, _, _⟩ := fl_ok W1 h1 (by omega)
  have := (opF_ok (s := itS n s i) f1 f2).2.1
  refine ⟨?_, f1, f2⟩
  unfold mvF
  rw [this]; omega
def sp__law_is_first (a : AD) : Sp := fun vs H Q _ => ∃ (w l r f p : Addr) (n : Int) (s : St3), vs = [.ref w, .ref p] ∧ Bk H w l r f n s ∧ WFs n s ∧ noLost n s ∧ H p = some (.lst ((repL n s).map V.int)) ∧ ∀ H', Kp [] H H' → Q (.bl true) H'
theorem sc__law_is_first : FnScope ["_law_start", "_law_moves", "_law_book", "_law_owed_here", "_law_place", "_law_node", "_law_one"] ["_law_start", "_law_moves"] (defScope s__law_is_first) := ⟨rfl, rfl, rfl, by decide +kernel, rfl, by decide +kernel, by decide +kernel⟩
theorem ok__law_is_first {P : Program} {w : World} {K : PySem.W.Frag} {mg : Str → Option Value} {base : Heap} {a : AD} (T : Txt P K mg a) (G__law_copy : FnA P w K mg base 2 a.f__law_copy ["_law_book"] (sp__law_copy a)) (G__law_owed : FnA P w K mg base 4 a.f__law_owed ["_law_book"] (sp__law_owed a)) (G__law_operation : FnA P w K mg base 2 a.f__law_operation ["_law_book", "_law_node"] (sp__law_operation a)) (G__law_lowers : FnA P w K mg base 3 a.f__law_lowers ["_law_book", "_law_node"] (sp__law_lowers a)) (G__law_step : FnA P w K mg base 2 a.f__law_step ["_law_book", "_law_node"] (sp__law_step a)) (G__law_lost : FnA P w K mg base 2 a.f__law_lost ["_law_book"] (sp__law_lost a)) (G__law_is_whole : FnA P w K mg base 2 a.f__law_is_whole ["_law_book"] (sp__law_is_whole a)) : FnA P w K mg base 5 a.f__law_is_first ["_law_start", "_law_moves"] (sp__law_is_first a) := by
  obtain ⟨fd, F, b⟩ := T.F__law_is_first
  refine FnA.of F sc__law_is_first b (fun vs H Q E h => by first | (obtain ⟨rfl, _⟩ := h; rfl) | (obtain ⟨_, rfl, _⟩ := h; rfl) | (obtain ⟨_, _, rfl, _⟩ := h; rfl) | (obtain ⟨_, _, _, rfl, _⟩ := h; rfl) | (obtain ⟨_, _, _, _, rfl, _⟩ := h; rfl) | (obtain ⟨_, _, _, _, _, rfl, _⟩ := h; rfl) | (obtain ⟨_, _, _, _, _, _, rfl, _⟩ := h; rfl) | (obtain ⟨_, _, _, _, _, _, _, rfl, _⟩ := h; rfl) | (obtain ⟨_, _, _, _, _, _, _, _, rfl, _⟩ := h; rfl) | (obtain ⟨_, _, _, _, _, _, _, _, _, rfl, _⟩ := h; rfl) | (obtain ⟨_, _, _, _, _, _, _, _, _, _, rfl, _⟩ := h; rfl) | (obtain ⟨_, _, _, _, _, _, _, _, _, _, _, rfl, _⟩ := h; rfl) | (obtain ⟨_, _, _, _, _, _, _, _, _, _, _, _, rfl, _⟩ := h; rfl) | (obtain ⟨_, _, _, _, _, _, _, _, _, _, _, _, _, rfl, _⟩ := h; rfl) | (obtain ⟨_, _, _, _, _, _, _, _, _, _, _, _, _, _, rfl, _⟩ := h; rfl) | (obtain ⟨_, _, _, _, _, _, _, _, _, _, _, _, _, _, _, rfl, _⟩ := h; rfl) | (obtain ⟨_, _, _, _, _, _, _, _, _, _, _, _, _, _, _, _, rfl, _⟩ := h; rfl) | (obtain ⟨_, _, _, _, _, _, _, _, _, _, _, _, _, _, _, _, _, rfl, _⟩ := h; rfl) | (obtain ⟨_, _, _, _, _, _, _, _, _, _, _, _, _, _, _, _, _, _, rfl, _⟩ := h; rfl) | (obtain ⟨_, _, _, _, _, _, _, _, _, _, _, _, _, _, _, _, _, _, _, rfl, _⟩ := h; rfl) | (obtain ⟨_, _, _, _, _, _, _, _, _, _, _, _, _, _, _, _, _, _, _, _, rfl, _⟩ := h; rfl) | (obtain ⟨_, _, _, _, _, _, _, _, _, _, _, _, _, _, _, _, _, _, _, _, _, rfl, _⟩ := h; rfl) | (obtain ⟨_, _, _, _, _, _, _, _, _, _, _, _, _, _, _, _, _, _, _, _, _, _, rfl, _⟩ := h; rfl) | (obtain ⟨_, _, _, _, _, _, _, _, _, _, _, _, _, _, _, _, _, _, _, _, _, _, _, rfl, _⟩ := h; rfl)) (fun cdv A outer s H vs Q E hr tk pz h => ?_)
  have hu := hr.units
  have hrH := L2H.roomH_of hr
  obtain ⟨w, l, r, f, p, n, s, rfl, hB, W, hno, hp, k⟩ := h
  refine ⟨_, (pss_cons (ps_set (i := 2) sc__law_is_first.nd rfl (Or.inr rfl) (pe_callA G__law_copy (Room.mono hr (by decide)) T.n__law_copy tk (pa_cons (pv 0) pa_nil)))
      (pss_cons (ps_set (i := 3) sc__law_is_first.nd rfl (Or.inl rfl) (pe_callA G__law_owed (Room.mono hr (by decide)) T.n__law_owed tk (pa_cons (pv 2) pa_nil)))
      (pss_cons (ps_if (pt_cmpA (o_ne hu) (pe_callB (b_len) rfl T.b_len (by decide +kernel) (pa_cons (pv 1) pa_nil)) (pv 3) (nomark _)) (pss_one (ps_ret pe_bl)) pss_nil)
      (pss_cons (ps_for pz rfl (pi_range1 rfl T.b_range (pa_cons (pv 3) pa_nil)) (pg_name (i := 4) sc__law_is_first.nd rfl (Or.inl rfl))
      (pss_cons (ps_set (i := 5) sc__law_is_first.nd rfl (Or.inl rfl) (pe_callB (b_abs) rfl T.b_abs (by decide +kernel) (pa_cons (pe_ix ix_seq (pv 1) (pv 4) (fun _ _ => rfl)) pa_nil)))
      (pss_cons (ps_if (PW.pt (pw_or (pt_not (pt_chainA op_le op_le pe_int (pv 5) (pe_ix ix_seq (pv 2) pe_int (fun _ _ => rfl)))) (pw_or1 (pt_cmpA (o_ne hu) (pe_ix ix_seq (pv 1) (pv 4) (fun _ _ => rfl)) (pe_callA G__law_operation (Room.mono hr (by decide)) T.n__law_operation tk (pa_cons (pv 2) (pa_cons (pv 5) pa_nil))) (nomark _))))) (pss_one (ps_ret pe_bl)) pss_nil)
      (pss_cons (ps_if (pt_cmpA (o_ne hu) (pe_lc (own := [("_law_one", 6)]) (g := (gName 6)) rfl sc__law_is_first.nd (pi_range2 rfl T.b_range (pa_cons pe_int (pa_cons (pv 5) pa_nil))) (blkOk_by (own := [("_law_one", 6)]) (N := ["_law_start", "_law_moves", "_law_book", "_law_owed_here", "_law_place", "_law_node", "_law_one"]) (sc := defScope s__law_is_first) (by decide +kernel)) (fun _ _ _ _ _ => (pg_name (i := 6) sc__law_is_first.nd rfl (Or.inl rfl))) (fun _ _ _ _ _ => (pts_one (show PT _ _ (cTru K _) from (pt_tru (pe_callA G__law_lowers (Room.mono hr (by decide)) T.n__law_lowers takes0 (pa_cons (pv 2) (pa_cons (pv 6) pa_nil))))))) (fun _ _ _ _ _ => (pv 6))) (pe_lst pa_nil) (nomark _)) (pss_one (ps_ret pe_bl)) pss_nil)
      (pss_cons (ps_expr (pe_callA G__law_step (Room.mono hr (by decide)) T.n__law_step tk (pa_cons (pv 2) (pa_cons (pv 5) pa_nil))))
      (pss_one (ps_if (PW.pt (pw_or (pt_cmpA (o_ne hu) (pe_callA G__law_lost (Room.mono hr (by decide)) T.n__law_lost tk (pa_cons (pv 2) pa_nil)) (pe_lst pa_nil) (nomark _)) (pw_or1 (pt_cmpA (o_ne hu) (pe_callA G__law_owed (Room.mono hr (by decide)) T.n__law_owed tk (pa_cons (pv 2) pa_nil)) (pe_op op_sub (pe_op op_sub (pv 3) (pv 4)) pe_int) (nomark _))))) (pss_one (ps_ret pe_bl)) pss_nil)))))))
      (pss_one (ps_ret (pe_callA G__law_is_whole (Room.mono hr (by decide)) T.n__law_is_whole tk (pa_cons (pv 2) pa_nil)))))))), ?_⟩
  show (_ : Ends → L2.St → Hp → Prop) _ [some _, some _, none, none, none, none, none] _
  try dsimp only [L2H.cxH, cxOf]
  have n0 := WF.n0 W
  have n1 := WF.n1 W
  have hde := debt_le (s := s) n0
  have hd0 := (debt_pos (n := n) (s := s)).1
  have hrl := repL_len n s
  have hrl2 : ((repL n s).length : Int) = debtF n s := by omega
  walk_at "w"
  refine ⟨w, l, r, f, n, s, rfl, hB, fun w' l' r' f' H1 hw' hl' hr2 hf' hB1 k1 => ?_⟩
  have hp1 := k1.at0 hp
  have pl : p ≠ l' := ne_of_none hp hl'
  have pr : p ≠ r' := ne_of_none hp hr2
  have pf : p ≠ f' := ne_of_none hp hf'
  walk_at "w"
  refine ⟨w', l', r', f', n, s, rfl, hB1, W, fun H2 k2 => ?_⟩
  have hp2 := k2.at0 hp1
  walk_at "w"
  refine w_rng1 (n := debtF n s) (by omega) (by omega) (fun i σ' H' => ∃ z4 z5 z6, σ' = [some (.ref w), some (.ref p), some (.ref w'), some (.int (debtF n s)), z4, z5, z6] ∧ Kp [] H H' ∧ Bk H' w' l' r' f' n (itS n s i) ∧ H' p = some (.lst ((repL n s).map V.int))) ⟨_, _, _, rfl, k1.trans0 k2, hB1.kp0 k2, hp2⟩ ?_ ?_
  · rintro i σ' H5 hi ⟨z4, z5, z6, rfl, k5, hB5, hp5⟩
    obtain ⟨W5, no5, e5, d5, s5⟩ := itS_ok W hno i (by omega)
    obtain ⟨f1, f2, f3, f4⟩ := fl_ok W5 no5 (by omega)
    obtain ⟨m1, m2, m3⟩ := mv_ok W hno hi
    have hu : (repL n s)[i]? = some (mvF n s i) := by
      have : i < (repL n s).length := by omega
      have e := List.getElem?_eq_getElem this
      rw [e]
      exact congrArg some (repL_at e).2
    have hgd : (repL n s).getD i default = mvF n s i := by rw [List.getD_eq_getElem?_getD, hu]; rfl
    walk_at "w"
    rw [Int.toNat_natCast, hgd, m1]
    have hmv : mvF n s i = opF (itS n s i) (flF n (itS n s i)) := rfl
    have hw5 := hB5.1
    have hS : stS (itS n s i) (opF (itS n s i) (flF n (itS n s i))) = itS n s (i + 1) := rfl
    walk_at "w"
    refine ⟨w', l', r', f', n, flF n (itS n s i), _, rfl, hB5, W5, m2, m3, ?_⟩
    rw [Int.toNat_natCast, hgd, ← hmv]
    walk_at "w"
    refine w_lcR2 (f' := V.int) (fun _ : Nat => (none : Option Int)) (lo := 1) (n := flF n (itS n s i)) (by omega) (by omega) (by omega) (by omega) (by rw [sizeLine_eq]; omega) ?_ ?_
    · intro D j acc H' hD hj hk hA hlen
      walk_at "w"
      refine ⟨rfl, ?_⟩
      walk_at "w"
      refine ⟨w', l', r', f', n, 1 + (j : Int), _, rfl, hB5.kp0 hk, W5, by omega, by omega, ?_⟩
      rw [decide_eq_false (f4 (1 + (j : Int)) (by omega) (by omega))]
      walk_at "w"
      exact w_drop hk hA rfl
    intro D H6 hD k6 hA6
    have e0 : (List.range (flF n (itS n s i) - 1).toNat).filterMap (fun _ : Nat => (none : Option Int)) = [] := by rw [List.filterMap_eq_nil_iff]; intro _ _; rfl
    rw [e0] at hA6
    walk_at "w"
    intro E hE
    refine w_neLI' (ns := []) (ms := []) (upd_new hE hA6) upd_same ?_
    have k7 := (k5.trans0 k6).new (o := .lst []) hE
    have k57 := k6.new (o := .lst []) hE
    have hB7 := hB5.kp0 k57
    have hp7 := k57.at0 hp5
    generalize upd H6 E (.lst []) = H7 at k7 hB7 hp7 ⊢
    clear k57
    walk_at "w"
    refine ⟨w', l', r', f', n, flF n (itS n s i), _, rfl, hB7, W5, m2, m3, fun H8 hB8 W8 k8 => ?_⟩
    rw [hS] at hB8 W8
    have k08 := kp_new3 k7 hl' hr2 hf' k8
    have hp8 : H8 p = some (.lst ((repL n s).map V.int)) := k8 p _ hp7 (by
      intro z
      simp only [List.mem_cons, List.mem_nil_iff, or_false] at z
      rcases z with z | z | z
      · exact pl z
      · exact pr z
      · exact pf z)
    obtain ⟨_, no8, e8, _, _⟩ := itS_ok W hno (i + 1) (by omega)
    have hl8 := (lostL_nil n0).mpr no8
    walk_at "w"
    refine ⟨w', l', r', f', n, _, rfl, hB8, W8, fun q H9 hq k9 hq9 => ?_⟩
    rw [hl8] at hq9
    walk_at "w"
    intro E2 hE2
    refine w_neLI' (ns := []) (ms := []) (upd_new hE2 hq9) upd_same ?_
    have k10 := k9.new (o := .lst []) hE2
    generalize upd H9 E2 (.lst []) = H10 at k10 ⊢
    walk_at "w"
    refine ⟨w', l', r', f', n, _, rfl, hB8.kp0 k10, W8, fun H11 k11 => ?_⟩
    have k12 := k10.trans0 k11
    walk_at "w"
    exact ⟨_, _, _, rfl, k08.trans0 k12, hB8.kp0 k12, k12.at0 hp8⟩
  · rintro σ' H5 ⟨z4, z5, z6, rfl, k5, hB5, hp5⟩
    walk_at "w"
    obtain ⟨W5, no5, e5, d5, s5⟩ := itS_ok W hno (debtF n s).toNat (by omega)
    refine ⟨w', l', r', f', n, _, true, rfl, hB5, W5, ⟨fun _ => rep_whole W hno, fun _ => rfl⟩, ?_⟩
    exact k H5 k5
def sp__law_acts_fit (a : AD) : Sp := fun vs H Q _ => ∃ (w l r f p : Addr) (n : Int) (s : St3), vs = [.ref w, .ref p] ∧ Bk H w l r f n s ∧ WFs n s ∧ noLost n s ∧ H p = some (.lst ((repL n s).map V.int)) ∧ ∀ H', Kp [] H H' → Q (.bl true) H'
theorem sc__law_acts_fit : FnScope ["_law_book", "_law_moves", "_law_node", "_law_due_here", "_law_move"] ["_law_book", "_law_moves"] (defScope s__law_acts_fit) := ⟨rfl, rfl, rfl, by decide +kernel, rfl, by decide +kernel, by decide +kernel⟩
theorem ok__law_acts_fit {P : Program} {w : World} {K : PySem.W.Frag} {mg : Str → Option Value} {base : Heap} {a : AD} (T : Txt P K mg a) (G__law_is_due : FnA P w K mg base 2 a.f__law_is_due ["_law_book", "_law_node"] (sp__law_is_due a)) : FnA P w K mg base 3 a.f__law_acts_fit ["_law_book", "_law_moves"] (sp__law_acts_fit a) := by
  obtain ⟨fd, F, b⟩ := T.F__law_acts_fit
  refine FnA.of F sc__law_acts_fit b (fun vs H Q E h => by first | (obtain ⟨rfl, _⟩ := h; rfl) | (obtain ⟨_, rfl, _⟩ := h; rfl) | (obtain ⟨_, _, rfl, _⟩ := h; rfl) | (obtain ⟨_, _, _, rfl, _⟩ := h; rfl) | (obtain ⟨_, _, _, _, rfl, _⟩ := h; rfl) | (obtain ⟨_, _, _, _, _, rfl, _⟩ := h; rfl) | (obtain ⟨_, _, _, _, _, _, rfl, _⟩ := h; rfl) | (obtain ⟨_, _, _, _, _, _, _, rfl, _⟩ := h; rfl) | (obtain ⟨_, _, _, _, _, _, _, _, rfl, _⟩ := h; rfl) | (obtain ⟨_, _, _, _, _, _, _, _, _, rfl, _⟩ := h; rfl) | (obtain ⟨_, _, _, _, _, _, _, _, _, _, rfl, _⟩ := h; rfl) | (obtain ⟨_, _, _, _, _, _, _, _, _, _, _, rfl, _⟩ := h; rfl) | (obtain ⟨_, _, _, _, _, _, _, _, _, _, _, _, rfl, _⟩ := h; rfl) | (obtain ⟨_, _, _, _, _, _, _, _, _, _, _, _, _, rfl, _⟩ := h; rfl) | (obtain ⟨_, _, _, _, _, _, _, _, _, _, _, _, _, _, rfl, _⟩ := h; rfl) | (obtain ⟨_, _, _, _, _, _, _, _, _, _, _, _, _, _, _, rfl, _⟩ := h; rfl) | (obtain ⟨_, _, _, _, _, _, _, _, _, _, _, _, _, _, _, _, rfl, _⟩ := h; rfl) | (obtain ⟨_, _, _, _, _, _, _, _, _, _, _, _, _, _, _, _, _, rfl, _⟩ := h; rfl) | (obtain ⟨_, _, _, _, _, _, _, _, _, _, _, _, _, _, _, _, _, _, rfl, _⟩ := h; rfl) | (obtain ⟨_, _, _, _, _, _, _, _, _, _, _, _, _, _, _, _, _, _, _, rfl, _⟩ := h; rfl) | (obtain ⟨_, _, _, _, _, _, _, _, _, _, _, _, _, _, _, _, _, _, _, _, rfl, _⟩ := h; rfl) | (obtain ⟨_, _, _, _, _, _, _, _, _, _, _, _, _, _, _, _, _, _, _, _, _, rfl, _⟩ := h; rfl) | (obtain ⟨_, _, _, _, _, _, _, _, _, _, _, _, _, _, _, _, _, _, _, _, _, _, rfl, _⟩ := h; rfl) | (obtain ⟨_, _, _, _, _, _, _, _, _, _, _, _, _, _, _, _, _, _, _, _, _, _, _, rfl, _⟩ := h; rfl)) (fun cdv A outer s H vs Q E hr tk pz h => ?_)
  have hu := hr.units
  have hrH := L2H.roomH_of hr
  obtain ⟨w, l, r, f, p, n, s, rfl, hB, W, hno, hp, k⟩ := h
  refine ⟨_, (pss_cons (ps_for pz rfl (pi_range2 rfl T.b_range (pa_cons pe_int (pa_cons (pe_op o_add (pe_ix ix_seq (pv 0) pe_int (fun _ _ => rfl)) pe_int) pa_nil))) (pg_name (i := 2) sc__law_acts_fit.nd rfl (Or.inr rfl))
      (pss_cons (ps_set (i := 3) sc__law_acts_fit.nd rfl (Or.inl rfl) pe_int)
      (pss_cut (ps_if (pt_tru (pe_callA G__law_is_due (Room.mono hr (by decide)) T.n__law_is_due tk (pa_cons (pv 0) (pa_cons (pv 2) pa_nil)))) (pss_one (ps_set (i := 3) sc__law_acts_fit.nd rfl (Or.inl rfl) (pe_ifExp (pt_tru (pe_ix ix_seq (pe_ix ix_seq (pv 0) pe_int (fun _ _ => rfl)) (pv 2) (fun _ _ => rfl))) pe_int pe_int))) pss_nil)
      (pss_one (ps_if (pt_cmpA (o_ne hu) (pe_callB (b_len) rfl T.b_len (by decide +kernel) (pa_cons (pe_lc (own := [("_law_move", 4)]) (g := (gName 4)) rfl sc__law_acts_fit.nd (pi_list (pv 1)) (blkOk_by (own := [("_law_move", 4)]) (N := ["_law_book", "_law_moves", "_law_node", "_law_due_here", "_law_move"]) (sc := defScope s__law_acts_fit) (by decide +kernel)) (fun _ _ _ _ _ => (pg_name (i := 4) sc__law_acts_fit.nd rfl (Or.inl rfl))) (fun _ _ _ _ _ => (pts_one (PW.pt (pw_or (pt_cmpA (show OpR _ _ (aEq K) from (o_eq hu)) (pv 4) (pv 2) (nomark _)) (pw_or1 (pt_cmpA (show OpR _ _ (aEq K) from (o_eq hu)) (pv 4) (pe_un un_neg (pv 2)) (nomark _))))))) (fun _ _ _ _ _ => (pv 4))) pa_nil)) (pv 3) (nomark _)) (pss_one (ps_ret pe_bl)) pss_nil)))))
      (pss_one (ps_ret pe_bl))), ?_⟩
  show (_ : Ends → L2.St → Hp → Prop) _ [some _, some _, none, none, none] _
  try dsimp only [L2H.cxH, cxOf]
  have n0 := WF.n0 W
  have n1 := WF.n1 W
  have hF := WF.hF W
  have hde := debt_le (s := s) n0
  have hd0 := (debt_pos (n := n) (s := s)).1
  have hrl := repL_len n s
  have hw := hB.1
  walk_at "w"
  refine w_rng2 (lo := 1) (n := n + 1) (by omega) (by omega) (by omega) (by omega) (fun i σ' H' => ∃ z2 z3 z4, σ' = [some (.ref w), some (.ref p), z2, z3, z4] ∧ Kp [] H H') ⟨_, _, _, rfl, Kp.refl⟩ ?_ ?_
  · rintro i σ' H1 hi ⟨z2, z3, z4, rfl, k1⟩
    have hB1 := hB.kp0 k1
    have hw1 := hB1.1
    have hf1 := hB1.2.2.2.1
    have hp1 := k1.at0 hp
    have v1 : 1 ≤ 1 + (i : Int) := by omega
    have v2 : 1 + (i : Int) ≤ n := by omega
    generalize 1 + (i : Int) = v at v1 v2 ⊢
    walk_at "w"
    refine s_cut (fun σ' H' => H' = H1 ∧ ∃ z4, σ' = [some (.ref w), some (.ref p), some (.int v), some (.int (shV s v)), z4]) ?_ ?_
    · walk_at "w"
      refine ⟨w, l, r, f, n, v, s, rfl, hB1, W, v1, v2, ?_⟩
      unfold shV
      by_cases hd : dueP s v
      · rw [show decide (dueP s v) = true by simpa using hd, if_pos hd]
        unfold shareF
        walk_at "w"
        refine w_iteb (fun c => ?_) (fun c => ?_)
        · rw [if_pos c]
          walk_at "w"
          exact ⟨rfl, _, rfl⟩
        · rw [if_neg (by rw [c]; exact Bool.false_ne_true)]
          walk_at "w"
          exact ⟨rfl, _, rfl⟩
      · rw [show decide (dueP s v) = false by simpa using hd, if_neg hd]
        walk_at "w"
        exact ⟨rfl, _, rfl⟩
    rintro σ' H2 ⟨e, z4, rfl⟩
    subst e
    walk_at "w"
    refine w_lcM (us := repL n s) (f := V.int) (f' := V.int) (fun o => if o = v ∨ o = -v then some o else none) hp1 (by rw [sizeLine_eq]; omega) ?_ ?_
    · intro D j o acc H' hD hu hk hA hlen
      walk_at "w"
      refine ⟨rfl, ?_⟩
      walk_at "w"
      refine w_ite (fun c => ?_) (fun c => ?_)
      · walk_at "w"
        exact w_keep hk hA hlen hD (by rw [if_pos (.inl c)])
      · walk_at "w"
        refine w_ite (fun c2 => ?_) (fun c2 => ?_)
        · walk_at "w"
          exact w_keep hk hA hlen hD (by rw [if_pos (.inr c2)])
        · walk_at "w"
          exact w_drop hk hA (by rw [if_neg (fun z => z.elim c c2)])
    intro D H3 hD k3 hA3
    have ea := acts_filter W hno v1 v2
    generalize (repL n s).filterMap (fun o => if o = v ∨ o = -v then some o else none) = acts at hA3 ea
    walk_at "w"
    exact ⟨_, _, _, rfl, k1.trans0 k3⟩
  · rintro σ' H1 ⟨z2, z3, z4, rfl, k1⟩
    walk_at "w"
    exact k H1 k1
/-! ### asked -/
def sp__law_asked (a : AD) : Sp := fun vs H Q _ => ∃ (x l r f w wl wr wf : Addr) (n : Int) (s : St3), vs = [.ref x, .ref w] ∧ LkS a H x l r f n s ∧ Bk H w wl wr wf n s ∧ WFs n s ∧ ∀ H', Kp [] H H' → Q (.bl true) H'
theorem sc__law_asked : FnScope ["_law_linked", "_law_book", "_law_lost_here", "_law_told", "fault", "_law_moves", "_law_again"] ["_law_linked", "_law_book"] (defScope s__law_asked) := ⟨rfl, rfl, rfl, by decide +kernel, rfl, by decide +kernel, by decide +kernel⟩
theorem ok__law_asked {P : Program} {w : World} {K : PySem.W.Frag} {mg : Str → Option Value} {base : Heap} {a : AD} (T : Txt P K mg a) (G__law_lost : FnA P w K mg base 2 a.f__law_lost ["_law_book"] (sp__law_lost a)) (G_first_repair : FnA P w K mg base 10 a.f_first_repair ["links"] (sp_first_repair a)) (G__law_numbers : FnA P w K mg base 3 a.f__law_numbers ["_law_told"] (sp__law_numbers a)) (G__law_is_first : FnA P w K mg base 5 a.f__law_is_first ["_law_start", "_law_moves"] (sp__law_is_first a)) (G__law_acts_fit : FnA P w K mg base 3 a.f__law_acts_fit ["_law_book", "_law_moves"] (sp__law_acts_fit a)) (G_Links_dump : FnA P w K mg base 3 a.f_Links_dump ["self"] (sp_Links_dump a)) (G__law_dump : FnA P w K mg base 2 a.f__law_dump ["_law_book"] (sp__law_dump a)) (H__law_number : FnHA P w K mg base 2 a.f__law_number ["_law_told"] (sp__law_number a)) (H_Links_dump : FnHA P w K mg base 3 a.f_Links_dump ["self"] (sp_Links_dump a)) (H__law_dump : FnHA P w K mg base 2 a.f__law_dump ["_law_book"] (sp__law_dump a)) : FnA P w K mg base 11 a.f__law_asked ["_law_linked", "_law_book"] (sp__law_asked a) := by
  obtain ⟨fd, F, b⟩ := T.F__law_asked
  refine FnA.of F sc__law_asked b (fun vs H Q E h => by first | (obtain ⟨rfl, _⟩ := h; rfl) | (obtain ⟨_, rfl, _⟩ := h; rfl) | (obtain ⟨_, _, rfl, _⟩ := h; rfl) | (obtain ⟨_, _, _, rfl, _⟩ := h; rfl) | (obtain ⟨_, _, _, _, rfl, _⟩ := h; rfl) | (obtain ⟨_, _, _, _, _, rfl, _⟩ := h; rfl) | (obtain ⟨_, _, _, _, _, _, rfl, _⟩ := h; rfl) | (obtain ⟨_, _, _, _, _, _, _, rfl, _⟩ := h; rfl) | (obtain ⟨_, _, _, _, _, _, _, _, rfl, _⟩ := h; rfl) | (obtain ⟨_, _, _, _, _, _, _, _, _, rfl, _⟩ := h; rfl) | (obtain ⟨_, _, _, _, _, _, _, _, _, _, rfl, _⟩ := h; rfl) | (obtain ⟨_, _, _, _, _, _, _, _, _, _, _, rfl, _⟩ := h; rfl) | (obtain ⟨_, _, _, _, _, _, _, _, _, _, _, _, rfl, _⟩ := h; rfl) | (obtain ⟨_, _, _, _, _, _, _, _, _, _, _, _, _, rfl, _⟩ := h; rfl) | (obtain ⟨_, _, _, _, _, _, _, _, _, _, _, _, _, _, rfl, _⟩ := h; rfl) | (obtain ⟨_, _, _, _, _, _, _, _, _, _, _, _, _, _, _, rfl, _⟩ := h; rfl) | (obtain ⟨_, _, _, _, _, _, _, _, _, _, _, _, _, _, _, _, rfl, _⟩ := h; rfl) | (obtain ⟨_, _, _, _, _, _, _, _, _, _, _, _, _, _, _, _, _, rfl, _⟩ := h; rfl) | (obtain ⟨_, _, _, _, _, _, _, _, _, _, _, _, _, _, _, _, _, _, rfl, _⟩ := h; rfl) | (obtain ⟨_, _, _, _, _, _, _, _, _, _, _, _, _, _, _, _, _, _, _, rfl, _⟩ := h; rfl) | (obtain ⟨_, _, _, _, _, _, _, _, _, _, _, _, _, _, _, _, _, _, _, _, rfl, _⟩ := h; rfl) | (obtain ⟨_, _, _, _, _, _, _, _, _, _, _, _, _, _, _, _, _, _, _, _, _, rfl, _⟩ := h; rfl) | (obtain ⟨_, _, _, _, _, _, _, _, _, _, _, _, _, _, _, _, _, _, _, _, _, _, rfl, _⟩ := h; rfl) | (obtain ⟨_, _, _, _, _, _, _, _, _, _, _, _, _, _, _, _, _, _, _, _, _, _, _, rfl, _⟩ := h; rfl)) (fun cdv A outer s H vs Q E hr tk pz h => ?_)
  have hu := hr.units
  have hrH := L2H.roomH_of hr
  obtain ⟨x, l, r, f, w, wl, wr, wf, n, s, rfl, hL, hB, W, k⟩ := h
  refine ⟨_, (pss_cons (ps_set (i := 2) sc__law_asked.nd rfl (Or.inl rfl) (pe_callA G__law_lost (Room.mono hr (by decide)) T.n__law_lost tk (pa_cons (pv 1) pa_nil)))
      (pss_cons (L2N.ps_try_as (i := 4) (tb := fun W => (tAsg (tCallS (sp_first_repair a) (WE W) (tCons (tVar 0) tNil)) (gName 3))) (ts := fun ea cls d => (tSeq (tIfS (tOr (cB (tOp (aEq K) (tVar 2) (tLst tNil))) (tOr (tNot (cTru K (tCB (rIsG K ea cls d) (tCons (tVar 4) (tCons (tC (.ref a.NotRepairable)) tNil))))) (tNot (cTru K (tCB (rIsG K ea cls d) (tCons (tVar 4) (tCons (tC (.ty "ValueError")) tNil))))))) (tRet (tC (.bl false))) tNext) (tSeq (tIfS (tOr (cTru K (tCB (rIsG K ea cls d) (tCons (tVar 4) (tCons (tC (.ref a.LogError)) tNil)))) (tOr (tNot (cTru K (tCallS (sp__law_number a) (fun _ => E0) (tCons (tXfG K ea cls d "gap" (tVar 4)) tNil)))) (cB (tOp (aNe K) (tXfG K ea cls d "gap" (tVar 4)) (tOp (rIx K) (tVar 2) (tC (.int 0))))))) (tRet (tC (.bl false))) tNext) (tRet (tOp (aEq K) (tMethS K a.Links "dump" (sp_Links_dump a) (fun _ => E0) (tVar 0) tNil) (tCallS (sp__law_dump a) (fun _ => E0) (tCons (tVar 1) tNil))))))) rfl rfl sc__law_asked.nd rfl rfl ⟨rfl, by decide, Or.inl T.c_LinkError⟩ tk
      (fun W pn xe tk2 pz => (pss_one (ps_set (i := 3) sc__law_asked.nd rfl (Or.inl rfl) (pe_callA G_first_repair (Room.mono hr (by decide)) T.n_first_repair tk2 (pa_cons (pv 0) pa_nil)))))
      (fun ea oe cls d pn hz hf => (pss_cons (ps_if (PW.pt (pw_or (pt_cmpA (o_eq hu) (pv 2) (pe_lst pa_nil) (nomark _)) (pw_or (pt_not (pt_tru (pe_callB (by exact call_isG (L2N.Zn.zc hz) hf) rfl T.b_isinstance (by decide +kernel) (pa_cons (pv 4) (pa_cons (pe_glob (v := .ref a.NotRepairable) rfl T.c_NotRepairable rfl) pa_nil))))) (pw_or1 (pt_not (pt_tru (pe_callB (by exact call_isG (L2N.Zn.zc hz) hf) rfl T.b_isinstance (by decide +kernel) (pa_cons (pv 4) (pa_cons (pe_bltn (v := .ty "ValueError") rfl T.b_ValueError (by decide +kernel) rfl) pa_nil))))))))) (pss_one (ps_ret pe_bl)) pss_nil)
      (pss_cons (ps_if (PW.pt (pw_or (pt_tru (pe_callB (by exact call_isG (L2N.Zn.zc hz) hf) rfl T.b_isinstance (by decide +kernel) (pa_cons (pv 4) (pa_cons (pe_glob (v := .ref a.LogError) rfl T.c_LogError rfl) pa_nil)))) (pw_or (pt_not (pt_tru (pe_callHA H__law_number (roomH_s hrH (by decide) rfl rfl) (hot_suite hz hf) T.n__law_number (pa_cons (by exact pe_xfG (L2N.Zn.zc hz) hf (pv 4)) pa_nil)))) (pw_or1 (pt_cmpA (o_ne hu) (by exact pe_xfG (L2N.Zn.zc hz) hf (pv 4)) (pe_ix ix_seq (pv 2) pe_int (fun _ _ => rfl)) (nomark _)))))) (pss_one (ps_ret pe_bl)) pss_nil)
      (pss_one (ps_ret (pe_cmpR (o_eq hu) (pe_methHS0 (pl := _) H_Links_dump (roomH_s hrH (by decide) rfl rfl) (hot_suite hz hf) T.cl_Links T.me_Links_dump (pv 0)) (pe_callHA H__law_dump (roomH_s hrH (by decide) rfl rfl) (hot_suite hz hf) T.n__law_dump (pa_cons (pv 1) pa_nil)) (nomark _))))))))
      (pss_cons (ps_if (PW.pt (pw_or (pt_cmpA (o_ne hu) (pv 2) (pe_lst pa_nil) (nomark _)) (pw_or (pt_not (pt_tru (pe_callA G__law_numbers (Room.mono hr (by decide)) T.n__law_numbers tk (pa_cons (pv 3) pa_nil)))) (pw_or1 (pt_not (pt_tru (pe_callA G__law_is_first (Room.mono hr (by decide)) T.n__law_is_first tk (pa_cons (pv 1) (pa_cons (pv 3) pa_nil))))))))) (pss_one (ps_ret pe_bl)) pss_nil)
      (pss_cons (ps_set (i := 5) sc__law_asked.nd rfl (Or.inl rfl) (pe_callTy b_list rfl T.b_list (by decide +kernel) (pa_cons (pv 3) pa_nil)))
      (pss_cons (ps_expr (pe_bm PySem.F.plainAttrs_list PySem.F.slot_list_append PySem.F.type_list_append mt_append (pv 3) (pa_cons pe_int pa_nil)))
      (pss_cons (ps_expr (pe_bm0 PySem.F.plainAttrs_list PySem.F.slot_list_reverse PySem.F.type_list_reverse mt_reverse (pv 3)))
      (pss_cons (ps_set (i := 6) sc__law_asked.nd rfl (Or.inl rfl) (pe_callA G_first_repair (Room.mono hr (by decide)) T.n_first_repair tk (pa_cons (pv 0) pa_nil)))
      (pss_cons (ps_if (PW.pt (pw_or (pt_not (pt_tru (pe_callA G__law_numbers (Room.mono hr (by decide)) T.n__law_numbers tk (pa_cons (pv 6) pa_nil)))) (pw_or (pt_cmpA (o_ne hu) (pv 6) (pv 5) (nomark _)) (pw_or1 (pt_not (pt_tru (pe_callA G__law_acts_fit (Room.mono hr (by decide)) T.n__law_acts_fit tk (pa_cons (pv 1) (pa_cons (pv 5) pa_nil))))))))) (pss_one (ps_ret pe_bl)) pss_nil)
      (pss_one (ps_ret (pe_cmpR (o_eq hu) (pe_methS0 (pl := _) G_Links_dump (Room.mono hr (by decide)) T.cl_Links T.me_Links_dump tk (pv 0)) (pe_callA G__law_dump (Room.mono hr (by decide)) T.n__law_dump tk (pa_cons (pv 1) pa_nil)) (nomark _)))))))))))), ?_⟩
  show (_ : Ends → L2.St → Hp → Prop) _ [some _, some _, none, none, none, none, none] _
  try dsimp only [L2H.cxH, cxOf]
  have n0 := WF.n0 W
  have n1 := WF.n1 W
  have hde := debt_le (s := s) n0
  have hd0 := (debt_pos (n := n) (s := s)).1
  have hrl := repL_len n s
  walk_at "w"
  refine ⟨w, wl, wr, wf, n, s, rfl, hB, W, fun q H1 hq k1 hq1 => ?_⟩
  walk_at "w"
  refine ⟨x, l, r, f, n, s, rfl, hL.kp0 k1, W, fun g rest e d H2 hd hd2 k2 => ?_, fun e p H2 hp k2 hp2 => ?_⟩
  · rw [e] at hq1
    refine w_asT T.t_NotRepairable_LinkError.2 (fun y hy => ?_)
    have k02 := k1.trans0 k2
    have hq2 := k2.at0 hq1
    have hL2 := hL.kp0 k02
    have hB2 := hB.kp0 k02
    walk_at "w"
    intro E hE
    refine w_eqLI' (ns := g :: rest) (ms := []) (upd_new hE hq2) upd_same ?_
    have hq3 : upd H2 E (.lst []) q = _ := upd_new hE hq2
    have hd3 : upd H2 E (.lst []) d = _ := upd_new hE hd2
    have k3 := Kp.refl.new (ms := []) (o := .lst []) hE
    have hL3 := hL2.kp0 k3
    have hB3 := hB2.kp0 k3
    have k03 := k02.trans0 k3
    have hx3 := hL3.1.choose_spec
    generalize upd H2 E (.lst []) = H3 at hq3 hd3 k03 hL3 hB3 hx3 ⊢
    rw [show decide (g :: rest = []) = false by simp]
    walk_at "w"
    refine ⟨g, rfl, ?_⟩
    walk_at "w"
    refine ⟨x, l, r, f, n, _, _, _, rfl, hL3, W, fun H4 k4 => ?_⟩
    walk_at "w"
    refine ⟨w, wl, wr, wf, n, s, rfl, hB3.kp0 k4, W, fun H5 k5 => ?_⟩
    walk_at "w"
    rw [decide_eq_true rfl]
    exact k H5 ((k03.trans0 k4).trans0 k5)
  · have hno := (lostL_nil n0).mp e
    rw [e] at hq1
    have k02 := k1.trans0 k2
    have hq2 := k2.at0 hq1
    walk_at "w"
    intro E hE
    refine w_neLI' (ns := []) (ms := []) (upd_new hE hq2) upd_same ?_
    have hp3 : upd H2 E (.lst []) p = _ := upd_new hE hp2
    have k03 := k02.new (o := .lst []) hE
    have hp0 : H p = none := k1.free hp
    generalize upd H2 E (.lst []) = H3 at hp3 k03 ⊢
    rw [show (!decide (([] : List Int) = [])) = false by simp]
    walk_at "w"
    refine ⟨p, _, rfl, hp3, by omega, fun H4 k4 => ?_⟩
    have hp4 := k4.at0 hp3
    have k04 := k03.trans0 k4
    walk_at "w"
    refine ⟨w, wl, wr, wf, p, n, s, rfl, hB.kp0 k04, W, hno, hp4, fun H5 k5 => ?_⟩
    have hp5 := k5.at0 hp4
    have k05 := k04.trans0 k5
    clear hp2 hp3 hp4 k2 k03 k04 k4 k5
    walk_at "w"
    intro t ht
    have ht0 := k05.free ht
    have tp : p ≠ t := ne_of_none hp5 ht
    have hp6 : upd H5 t (.lst ((repL n s).map V.int)) p = _ := upd_new ht hp5
    have ht6 : upd H5 t (.lst ((repL n s).map V.int)) t = some (.lst ((repL n s).map V.int)) := upd_same
    have k06 := k05.new (o := .lst ((repL n s).map V.int)) ht
    generalize upd H5 t (.lst ((repL n s).map V.int)) = H6 at hp6 ht6 k06 ⊢
    walk_at "w"
    have k07 : Kp [] H (upd (upd H6 p (.lst ((repL n s ++ [0]).map V.int))) p (.lst ((repL n s ++ [0]).map V.int).reverse)) := (k06.own hp0).own hp0
    have ht7 : upd (upd H6 p (.lst ((repL n s ++ [0]).map V.int))) p (.lst ((repL n s ++ [0]).map V.int).reverse) t = some (.lst ((repL n s).map V.int)) := upd_get tp.symm (upd_get tp.symm ht6)
    generalize upd (upd H6 p (.lst ((repL n s ++ [0]).map V.int))) p (.lst ((repL n s ++ [0]).map V.int).reverse) = H7 at k07 ht7 ⊢
    refine ⟨x, l, r, f, n, s, rfl, hL.kp0 k07, W, fun g rest z => absurd (e.symm.trans z) (by simp), fun _ u H8 hu k8 hu8 => ?_⟩
    have k08 := k07.trans0 k8
    have ht8 := k8.at0 ht7
    walk_at "w"
    refine ⟨u, _, rfl, hu8, by omega, fun H9 k9 => ?_⟩
    have k09 := k08.trans0 k9
    have ht9 := k9.at0 ht8
    have hu9 := k9.at0 hu8
    walk_at "w"
    refine ⟨w, wl, wr, wf, t, n, s, rfl, hB.kp0 k09, W, hno, ht9, fun H10 k10 => ?_⟩
    have k010 := k09.trans0 k10
    have hL10 := hL.kp0 k010
    have hx10 := hL10.1.choose_spec
    walk_at "w"
    refine ⟨x, l, r, f, n, _, _, _, rfl, hL10, W, fun H11 k11 => ?_⟩
    have k011 := k010.trans0 k11
    walk_at "w"
    refine ⟨w, wl, wr, wf, n, s, rfl, hB.kp0 k011, W, fun H12 k12 => ?_⟩
    walk_at "w"
    rw [decide_eq_true rfl]
    exact k H12 (k011.trans0 k12)
/-! ### a part of the repair -/
theorem cut_front {α : Type} {xs : List α} {i : Int} (i0 : 0 ≤ i) (i1 : i ≤ xs.length) : cut xs none (some i) = xs.take i.toNat := by
  unfold cut HT.sIx
  dsimp only
  rw [if_neg (by omega), List.drop_zero, Nat.sub_zero, Nat.min_eq_left (by omega)]
theorem cut_back {α : Type} {xs : List α} {i : Int} (i0 : 0 ≤ i) (i1 : i ≤ xs.length) : cut xs (some i) none = xs.drop i.toNat := by
  unfold cut HT.sIx
  dsimp only
  rw [if_neg (by omega), Nat.min_eq_left (by omega), List.take_of_length_le (by rw [List.length_drop]; omega)]
def sp__law_begun (a : AD) : Sp := fun vs H Q _ => ∃ (b q x l r f w wl wr wf : Addr) (n : Int) (s : St3), vs = [.ref b, .ref x, .ref w] ∧ Box H b q ∧ LkS a H x l r f n s ∧ Bk H w wl wr wf n s ∧ WFs n s ∧ noLost n s ∧
  (∀ y ∈ [x, l, r, f], y ∉ [b]) ∧ (∀ y ∈ [x, l, r, f], y ∉ [wl, wr, wf]) ∧ (∀ y ∈ [w, wl, wr, wf], y ∉ [b]) ∧ (∀ y ∈ [w, wl, wr, wf], y ∉ [l, r, f]) ∧ (∀ y ∈ [b, q], y ∉ [l, r, f]) ∧ (∀ y ∈ [b, q], y ∉ [wl, wr, wf]) ∧
  ∀ t H', Box H' b q → LkS a H' x l r f n t → Bk H' w wl wr wf n t → WFs n t → Kp [b, l, r, f, wl, wr, wf] H H' → Q (.bl true) H'
theorem sc__law_begun : FnScope ["_law_bag_here", "_law_linked", "_law_book", "_law_told", "_law_moves", "_law_many", "_law_move"] ["_law_bag_here", "_law_linked", "_law_book"] (defScope s__law_begun) := ⟨rfl, rfl, rfl, by decide +kernel, rfl, by decide +kernel, by decide +kernel⟩
theorem ok__law_begun {P : Program} {w : World} {K : PySem.W.Frag} {mg : Str → Option Value} {base : Heap} {a : AD} (T : Txt P K mg a) (G_first_repair : FnA P w K mg base 10 a.f_first_repair ["links"] (sp_first_repair a)) (G__law_numbers : FnA P w K mg base 3 a.f__law_numbers ["_law_told"] (sp__law_numbers a)) (G__law_is_first : FnA P w K mg base 5 a.f__law_is_first ["_law_start", "_law_moves"] (sp__law_is_first a)) (G__law_draw : FnA P w K mg base 2 a.f__law_draw ["_law_bag_here", "_law_many"] (sp__law_draw a)) (G_Links_apply : FnA P w K mg base 4 a.f_Links_apply ["self", "operation"] (sp_Links_apply a)) (G__law_step : FnA P w K mg base 2 a.f__law_step ["_law_book", "_law_node"] (sp__law_step a)) : FnA P w K mg base 11 a.f__law_begun ["_law_bag_here", "_law_linked", "_law_book"] (sp__law_begun a) := by
  obtain ⟨fd, F, b⟩ := T.F__law_begun
  refine FnA.of F sc__law_begun b (fun vs H Q E h => by first | (obtain ⟨rfl, _⟩ := h; rfl) | (obtain ⟨_, rfl, _⟩ := h; rfl) | (obtain ⟨_, _, rfl, _⟩ := h; rfl) | (obtain ⟨_, _, _, rfl, _⟩ := h; rfl) | (obtain ⟨_, _, _, _, rfl, _⟩ := h; rfl) | (obtain ⟨_, _, _, _, _, rfl, _⟩ := h; rfl) | (obtain ⟨_, _, _, _, _, _, rfl, _⟩ := h; rfl) | (obtain ⟨_, _, _, _, _, _, _, rfl, _⟩ := h; rfl) | (obtain ⟨_, _, _, _, _, _, _, _, rfl, _⟩ := h; rfl) | (obtain ⟨_, _, _, _, _, _, _, _, _, rfl, _⟩ := h; rfl) | (obtain ⟨_, _, _, _, _, _, _, _, _, _, rfl, _⟩ := h; rfl) | (obtain ⟨_, _, _, _, _, _, _, _, _, _, _, rfl, _⟩ := h; rfl) | (obtain ⟨_, _, _, _, _, _, _, _, _, _, _, _, rfl, _⟩ := h; rfl) | (obtain ⟨_, _, _, _, _, _, _, _, _, _, _, _, _, rfl, _⟩ := h; rfl) | (obtain ⟨_, _, _, _, _, _, _, _, _, _, _, _, _, _, rfl, _⟩ := h; rfl) | (obtain ⟨_, _, _, _, _, _, _, _, _, _, _, _, _, _, _, rfl, _⟩ := h; rfl) | (obtain ⟨_, _, _, _, _, _, _, _, _, _, _, _, _, _, _, _, rfl, _⟩ := h; rfl) | (obtain ⟨_, _, _, _, _, _, _, _, _, _, _, _, _, _, _, _, _, rfl, _⟩ := h; rfl) | (obtain ⟨_, _, _, _, _, _, _, _, _, _, _, _, _, _, _, _, _, _, rfl, _⟩ := h; rfl) | (obtain ⟨_, _, _, _, _, _, _, _, _, _, _, _, _, _, _, _, _, _, _, rfl, _⟩ := h; rfl) | (obtain ⟨_, _, _, _, _, _, _, _, _, _, _, _, _, _, _, _, _, _, _, _, rfl, _⟩ := h; rfl) | (obtain ⟨_, _, _, _, _, _, _, _, _, _, _, _, _, _, _, _, _, _, _, _, _, rfl, _⟩ := h; rfl) | (obtain ⟨_, _, _, _, _, _, _, _, _, _, _, _, _, _, _, _, _, _, _, _, _, _, rfl, _⟩ := h; rfl) | (obtain ⟨_, _, _, _, _, _, _, _, _, _, _, _, _, _, _, _, _, _, _, _, _, _, _, rfl, _⟩ := h; rfl)) (fun cdv A outer s H vs Q E hr tk pz h => ?_)
  have hu := hr.units
  have hrH := L2H.roomH_of hr
  obtain ⟨b, q, x, l, r, f, w, wl, wr, wf, n, s, rfl, hQ, hL, hB, W, hno, xb, xw, wb, wx, bx, bw, k⟩ := h
  refine ⟨_, (pss_cons (ps_set (i := 3) sc__law_begun.nd rfl (Or.inl rfl) (pe_callA G_first_repair (Room.mono hr (by decide)) T.n_first_repair tk (pa_cons (pv 1) pa_nil)))
      (pss_cons (ps_if (PW.pt (pw_or (pt_not (pt_tru (pe_callA G__law_numbers (Room.mono hr (by decide)) T.n__law_numbers tk (pa_cons (pv 3) pa_nil)))) (pw_or1 (pt_not (pt_tru (pe_callA G__law_is_first (Room.mono hr (by decide)) T.n__law_is_first tk (pa_cons (pv 2) (pa_cons (pv 3) pa_nil)))))))) (pss_one (ps_ret pe_bl)) pss_nil)
      (pss_cons (ps_set (i := 4) sc__law_begun.nd rfl (Or.inl rfl) (pe_callTy b_list rfl T.b_list (by decide +kernel) (pa_cons (pv 3) pa_nil)))
      (pss_cons (ps_set (i := 5) sc__law_begun.nd rfl (Or.inl rfl) (pe_callA G__law_draw (Room.mono hr (by decide)) T.n__law_draw tk (pa_cons (pv 0) (pa_cons (pe_op o_add (pe_callB (b_len) rfl T.b_len (by decide +kernel) (pa_cons (pv 4) pa_nil)) pe_int) pa_nil))))
      (pss_cons (ps_for pz rfl (pi_list (pe_slice sl_any (pv 4) po_none (po_some (pv 5)))) (pg_name (i := 6) sc__law_begun.nd rfl (Or.inl rfl))
      (pss_cons (ps_expr (pe_methS (pl := _) G_Links_apply (Room.mono hr (by decide)) T.cl_Links T.me_Links_apply tk (pv 1) (pa_cons (pv 6) pa_nil)))
      (pss_one (ps_expr (pe_callA G__law_step (Room.mono hr (by decide)) T.n__law_step tk (pa_cons (pv 2) (pa_cons (pe_callB (b_abs) rfl T.b_abs (by decide +kernel) (pa_cons (pv 6) pa_nil)) pa_nil)))))))
      (pss_cons (ps_set (i := 3) sc__law_begun.nd rfl (Or.inl rfl) (pe_callA G_first_repair (Room.mono hr (by decide)) T.n_first_repair tk (pa_cons (pv 1) pa_nil)))
      (pss_one (ps_ret (pe_and (pe_callA G__law_numbers (Room.mono hr (by decide)) T.n__law_numbers tk (pa_cons (pv 3) pa_nil)) (pe_one (pe_cmpR (o_eq hu) (pv 3) (pe_slice sl_any (pv 4) (po_some (pv 5)) po_none) (nomark _)))))))))))), ?_⟩
  show (_ : Ends → L2.St → Hp → Prop) _ [some _, some _, some _, none, none, none, none] _
  try dsimp only [L2H.cxH, cxOf]
  have n0 := WF.n0 W
  have n1 := WF.n1 W
  have hde := debt_le (s := s) n0
  have hd0 := (debt_pos (n := n) (s := s)).1
  have hrl := repL_len n s
  have hlo := (lostL_nil n0).mpr hno
  walk_at "w"
  refine ⟨x, l, r, f, n, s, rfl, hL, W, fun g rest z => absurd (hlo.symm.trans z) (by simp), fun _ p H1 hp k1 hp1 => ?_⟩
  walk_at "w"
  refine ⟨p, _, rfl, hp1, by omega, fun H2 k2 => ?_⟩
  have hp2 := k2.at0 hp1
  have k02 := k1.trans0 k2
  walk_at "w"
  refine ⟨w, wl, wr, wf, p, n, s, rfl, hB.kp0 k02, W, hno, hp2, fun H3 k3 => ?_⟩
  have hp3 := k3.at0 hp2
  have k03 := k02.trans0 k3
  clear hp1 hp2 k1 k2 k02 k3
  walk_at "w"
  intro mv hmv
  have k04 := k03.new (o := .lst ((repL n s).map V.int)) hmv
  have hmv4 : upd H3 mv (.lst ((repL n s).map V.int)) mv = some (.lst ((repL n s).map V.int)) := upd_same
  generalize upd H3 mv (.lst ((repL n s).map V.int)) = H4 at k04 hmv4 ⊢
  walk_at "w"
  refine ⟨b, q, _, rfl, hQ.kp k04, by omega, by omega, fun m H5 m0 m1 Q5 k5 => ?_⟩
  have X5 : LkS a H5 x l r f n s := Lnk.kpS (hL.kp0 k04) k5 xb
  have B5 : Bk H5 w wl wr wf n s := Wd.kpS (hB.kp0 k04) k5 wb
  have mvb : mv ≠ b := fun z => by
    obtain ⟨o, e⟩ := hQ.live b (by simp)
    have := k03.at0 e
    rw [← z, hmv] at this; cases this
  have hmv5 : H5 mv = some (.lst ((repL n s).map V.int)) := k5 mv _ hmv4 (fun z => mvb (List.mem_singleton.mp z))
  have k05 : Kp [b, l, r, f, wl, wr, wf] H H5 := (k04.mono (by simp)).trans (k5.mono (by simp))
  walk_at "w"
  intro t ht
  rw [cut_front m0 (by omega)]
  have hmt : m.toNat ≤ (debtF n s).toNat := by omega
  have htl : ((repL n s).take m.toNat).length = m.toNat := by rw [List.length_take]; omega
  have kt := Kp.refl.new (ms := []) (o := .lst (((repL n s).take m.toNat).map V.int)) ht
  have ht6 : upd H5 t (.lst (((repL n s).take m.toNat).map V.int)) t = _ := upd_same
  have tfar : ∀ y, (∃ o, H5 y = some o) → t ≠ y := fun y ⟨o, e⟩ z => by rw [← z, ht] at e; cases e
  have tX : t ∉ [l, r, f] := fun z => by
    obtain ⟨o, e⟩ := X5.live t (by simp only [List.mem_cons, List.mem_nil_iff, or_false] at z ⊢; exact .inr z)
    exact tfar t ⟨o, e⟩ rfl
  have tW : t ∉ [wl, wr, wf] := fun z => by
    obtain ⟨o, e⟩ := Wd.live B5 t (by simp only [List.mem_cons, List.mem_nil_iff, or_false] at z ⊢; exact .inr z)
    exact tfar t ⟨o, e⟩ rfl
  have mX : mv ∉ [l, r, f] := fun z => by
    obtain ⟨o, e⟩ := hL.live mv (by simp only [List.mem_cons, List.mem_nil_iff, or_false] at z ⊢; exact .inr z)
    have := k03.at0 e
    rw [hmv] at this; cases this
  have mW : mv ∉ [wl, wr, wf] := fun z => by
    obtain ⟨o, e⟩ := Wd.live hB mv (by simp only [List.mem_cons, List.mem_nil_iff, or_false] at z ⊢; exact .inr z)
    have := k03.at0 e
    rw [hmv] at this; cases this
  have mX6 := kt.at0 hmv5
  have X6 := X5.kp0 kt
  have B6 := B5.kp0 kt
  have Q6 := Q5.kp kt
  have k06 := k05.trans0 kt
  generalize upd H5 t (.lst (((repL n s).take m.toNat).map V.int)) = H6 at ht6 mX6 X6 B6 Q6 k06 ⊢
  refine w_forM (us := (repL n s).take m.toNat) (f := V.int) ht6 (fun i σ' H' => ∃ z6, σ' = [some (.ref b), some (.ref x), some (.ref w), some (.ref p), some (.ref mv), some (.int m), z6] ∧ Kp [b, l, r, f, wl, wr, wf] H H' ∧ Box H' b q ∧ LkS a H' x l r f n (itS n s i) ∧ Bk H' w wl wr wf n (itS n s i) ∧ H' mv = some (.lst ((repL n s).map V.int)) ∧ H' t = some (.lst (((repL n s).take m.toNat).map V.int))) ⟨_, rfl, k06, Q6, X6, B6, mX6, ht6⟩ (fun i σ' H' _ h => by obtain ⟨_, _, _, _, _, _, _, h⟩ := h; exact h) ?_ ?_
  · clear X5 X6 B5 B6 Q5 Q6 k05 k06 ht6 mX6 kt
    rintro i u σ' H7 hu ⟨z6, rfl, k7, Q7, X7, B7, hmv7, ht7⟩
    have hil : i < m.toNat := by rw [← htl]; exact (List.getElem?_eq_some_iff.mp hu).1
    have hi : (i : Int) < debtF n s := by omega
    rw [List.getElem?_take_of_lt hil] at hu
    have hu := (repL_at hu).2
    subst hu
    obtain ⟨W7, no7, e7, _, _⟩ := itS_ok W hno i (by omega)
    obtain ⟨m1', m2, m3⟩ := mv_ok W hno hi
    obtain ⟨hop, hab, hok⟩ := opF_ok (s := itS n s i) (v := flF n (itS n s i)) (n := n) m2 m3
    have hM : opF (itS n s i) (flF n (itS n s i)) = mvF n s i := rfl
    rw [hM] at hop hab hok
    have hx7 := X7.1.choose_spec
    have qa := WF.at W7 (v := (mvF n s i).natAbs) (by rw [hab]; omega) (by rw [hab]; omega)
    have eR : ((itS n s i).1 ++ [n + 2]).getD (mvF n s i).natAbs default = (itS n s i).1.getD (mvF n s i).natAbs default := gd_app' W7 (by rw [hab]; omega)
    walk_at "w"
    refine ⟨x, l, r, f, n, mvF n s i, _, _, _, rfl, X7, WF.hL W7, bk_len W7, WF.hF W7, fun z => absurd hop z, fun _ z => absurd z hok.2, fun _ _ => ⟨by omega, by omega, by omega, by omega, fun H8 X8 k8 => ?_⟩⟩
    have ea := ap_app W7 (x := n + 2) hop
    rw [ea.1, ea.2] at X8
    have X8 : LkS a H8 x l r f n (itS n s (i + 1)) := X8
    have B8 : Bk H8 w wl wr wf n (itS n s i) := Wd.kpS B7 k8 wx
    have Q8 := Q7.kpm k8 (bx b (by simp)) (bx q (by simp))
    have hmv8 := k8 mv _ hmv7 mX
    have ht8 := k8 t _ ht7 tX
    walk_at "w"
    rw [m1']
    refine ⟨w, wl, wr, wf, n, flF n (itS n s i), _, rfl, B8, W7, m2, m3, fun H9 B9 W9 k9 => ?_⟩
    have B9 : Bk H9 w wl wr wf n (itS n s (i + 1)) := B9
    have X9 : LkS a H9 x l r f n (itS n s (i + 1)) := Lnk.kpS X8 k9 xw
    have Q9 := Q8.kpm k9 (bw b (by simp)) (bw q (by simp))
    walk_at "w"
    exact ⟨_, rfl, (k7.trans (k8.mono (by simp))).trans (k9.mono (by simp)), Q9, X9, B9, k9 mv _ hmv8 mW, k9 t _ ht8 tW⟩
  · clear X5 X6 B5 B6 Q5 Q6 k05 k06 ht6 mX6 kt
    rintro σ' H7 ⟨z6, rfl, k7, Q7, X7, B7, hmv7, ht7⟩
    rw [htl] at X7 B7
    have hmi : (m.toNat : Int) ≤ debtF n s := by omega
    obtain ⟨W7, no7, e7, _, _⟩ := itS_ok W hno m.toNat hmi
    have erd := repL_drop W hno hmi
    have hlo7 := (lostL_nil n0).mpr no7
    walk_at "w"
    refine ⟨x, l, r, f, n, _, rfl, X7, W7, fun g rest z => absurd (hlo7.symm.trans z) (by simp), fun _ u H8 hu k8 hu8 => ?_⟩
    rw [erd] at hu8
    have hmv8 := k8.at0 hmv7
    have hdl : ((repL n s).drop m.toNat).length ≤ 1000 := by rw [List.length_drop]; omega
    walk_at "w"
    refine ⟨u, _, rfl, hu8, hdl, fun H9 k9 => ?_⟩
    have hu9 := k9.at0 hu8
    have hmv9 := k9.at0 hmv8
    have k89 := k8.trans0 k9
    walk_at "w"
    rw [cut_back m0 (by omega)]
    intro y hy
    refine w_eqLI' (ns := (repL n s).drop m.toNat) (ms := (repL n s).drop m.toNat) (upd_new hy hu9) upd_same ?_
    have k10 := k89.new (o := .lst (((repL n s).drop m.toNat).map V.int)) hy
    rw [decide_eq_true rfl]
    exact k _ _ (Q7.kp k10) (X7.kp0 k10) (B7.kp0 k10) W7 (k7.trans0 k10)
/-! ### the law -/
theorem live_app {H : Hp} {xs ys : List Addr} (h1 : ∀ y ∈ xs, ∃ o, H y = some o) (h2 : ∀ y ∈ ys, ∃ o, H y = some o) : ∀ y ∈ xs ++ ys, ∃ o, H y = some o := fun y hy => by
  rcases List.mem_append.mp hy with z | z
  · exact h1 y z
  · exact h2 y z
def spL (K : PySem.W.Frag) : Sp := fun vs H Q E => ∃ (p : Addr) (ns : List Int), vs = [.ref p] ∧ SqL K H p (ns.map V.int) ∧ ns.length ≤ 63 ∧ (∀ H', Kp [] H H' → SqL K H' p (ns.map V.int)) ∧ ∀ H', Q (.bl true) H'
theorem sc_law : FnScope ["_law_script", "_law_bag_here", "_law_size_here", "_law_book", "_law_small", "_law_other", "_law_linked", "_law_beside", "_law_turns", "_law_turn", "_law_node"] ["_law_script"] (defScope s_law) := ⟨rfl, rfl, rfl, by decide +kernel, rfl, by decide +kernel, by decide +kernel⟩
theorem ok_law {P : Program} {w : World} {K : PySem.W.Frag} {mg : Str → Option Value} {base : Heap} {a : AD} (T : Txt P K mg a) {fd : FuncData} (F : Fun K "law" "law" s_law a.f_law fd) (G__law_bag : FnA P w K mg base 2 a.f__law_bag ["_law_script"] (sp__law_bag K a)) (G__law_size : FnA P w K mg base 3 a.f__law_size ["_law_bag_here"] (sp__law_size a)) (G__law_standing : FnA P w K mg base 3 a.f__law_standing ["_law_bag_here", "_law_size_here", "_law_lossy"] (sp__law_standing a)) (G__law_draw : FnA P w K mg base 2 a.f__law_draw ["_law_bag_here", "_law_many"] (sp__law_draw a)) (G_Links_read : FnA P w K mg base 6 a.f_Links_read ["text"] (sp_Links_read a)) (G__law_dump : FnA P w K mg base 2 a.f__law_dump ["_law_book"] (sp__law_dump a)) (G__law_asked : FnA P w K mg base 11 a.f__law_asked ["_law_linked", "_law_book"] (sp__law_asked a)) (G__law_lost : FnA P w K mg base 2 a.f__law_lost ["_law_book"] (sp__law_lost a)) (G__law_begun : FnA P w K mg base 11 a.f__law_begun ["_law_bag_here", "_law_linked", "_law_book"] (sp__law_begun a)) (G_Links_apply : FnA P w K mg base 4 a.f_Links_apply ["self", "operation"] (sp_Links_apply a)) (G__law_operation : FnA P w K mg base 2 a.f__law_operation ["_law_book", "_law_node"] (sp__law_operation a)) (G__law_step : FnA P w K mg base 2 a.f__law_step ["_law_book", "_law_node"] (sp__law_step a)) : FnOk P w K mg base (L2N.CX P w) 12 a.f_law fd ["_law_script"] (spL K) := by
  refine FnOk_of F sc_law (fun vs H Q E h => by first | (obtain ⟨_, rfl, _⟩ := h; rfl) | (obtain ⟨_, _, rfl, _⟩ := h; rfl)) (fun cdv A outer s H vs Q E hr tk pz h => ?_)
  have hu := hr.units
  have hrH := L2H.roomH_of hr
  obtain ⟨p, ns, rfl, hp, hlen, hkeep, k⟩ := h
  refine ⟨_, (pss_cons (ps_set (i := 1) sc_law.nd rfl (Or.inl rfl) (pe_callA G__law_bag (Room.mono hr (by decide)) T.n__law_bag tk (pa_cons (pv 0) pa_nil)))
      (pss_cons (ps_set (i := 2) sc_law.nd rfl (Or.inl rfl) (pe_callA G__law_size (Room.mono hr (by decide)) T.n__law_size tk (pa_cons (pv 1) pa_nil)))
      (pss_cons (ps_set (i := 3) sc_law.nd rfl (Or.inl rfl) (pe_callA G__law_standing (Room.mono hr (by decide)) T.n__law_standing tk (pa_cons (pv 1) (pa_cons (pv 2) (pa_cons (pe_ix ix_seq (pe_lst (pa_cons pe_int (pa_cons pe_int (pa_cons pe_int (pa_cons pe_int (pa_cons pe_int (pa_cons pe_int pa_nil))))))) (pe_callA G__law_draw (Room.mono hr (by decide)) T.n__law_draw tk (pa_cons (pv 1) (pa_cons pe_int pa_nil))) (fun _ _ => rfl)) pa_nil)))))
      (pss_cons (ps_set (i := 4) sc_law.nd rfl (Or.inl rfl) (pe_callA G__law_draw (Room.mono hr (by decide)) T.n__law_draw tk (pa_cons (pv 1) (pa_cons pe_int pa_nil))))
      (pss_cons (ps_set (i := 5) sc_law.nd rfl (Or.inl rfl) (pe_callA G__law_standing (Room.mono hr (by decide)) T.n__law_standing tk (pa_cons (pv 1) (pa_cons (pv 4) (pa_cons pe_int pa_nil)))))
      (pss_cons (ps_set (i := 6) sc_law.nd rfl (Or.inl rfl) (T.st_Links_read.elim fun _ h => pe_static (pl := _) G_Links_read (Room.mono hr (by decide)) T.rd_Links h T.c_Links tk (pa_cons (pe_callA G__law_dump (Room.mono hr (by decide)) T.n__law_dump tk (pa_cons (pv 3) pa_nil)) pa_nil)))
      (pss_cons (ps_set (i := 7) sc_law.nd rfl (Or.inl rfl) (T.st_Links_read.elim fun _ h => pe_static (pl := _) G_Links_read (Room.mono hr (by decide)) T.rd_Links h T.c_Links tk (pa_cons (pe_callA G__law_dump (Room.mono hr (by decide)) T.n__law_dump tk (pa_cons (pv 5) pa_nil)) pa_nil)))
      (pss_cons (ps_if (PW.pt (pw_or (pt_not (pt_tru (pe_callA G__law_asked (Room.mono hr (by decide)) T.n__law_asked tk (pa_cons (pv 6) (pa_cons (pv 3) pa_nil))))) (pw_or1 (pt_not (pt_tru (pe_callA G__law_asked (Room.mono hr (by decide)) T.n__law_asked tk (pa_cons (pv 7) (pa_cons (pv 5) pa_nil)))))))) (pss_one (ps_ret pe_bl)) pss_nil)
      (pss_cut (ps_if (PW.pt (pw_and (pt_cmpA (o_eq hu) (pe_callA G__law_lost (Room.mono hr (by decide)) T.n__law_lost tk (pa_cons (pv 3) pa_nil)) (pe_lst pa_nil) (nomark _)) (pw_and1 (pt_not (pt_tru (pe_callA G__law_begun (Room.mono hr (by decide)) T.n__law_begun tk (pa_cons (pv 1) (pa_cons (pv 6) (pa_cons (pv 3) pa_nil))))))))) (pss_one (ps_ret pe_bl)) pss_nil)
      (pss_cons (ps_set (i := 8) sc_law.nd rfl (Or.inl rfl) (pe_callA G__law_draw (Room.mono hr (by decide)) T.n__law_draw tk (pa_cons (pv 1) (pa_cons pe_int pa_nil))))
      (pss_cut (ps_if (pt_cmpA (o_eq hu) (pv 2) pe_int (nomark _)) (pss_one (ps_set (i := 8) sc_law.nd rfl (Or.inl rfl) pe_int)) pss_nil)
      (pss_cons (ps_for pz rfl (pi_range1 rfl T.b_range (pa_cons (pv 8) pa_nil)) (pg_name (i := 9) sc_law.nd rfl (Or.inl rfl))
      (pss_cons (ps_set (i := 10) sc_law.nd rfl (Or.inl rfl) (pe_op o_add pe_int (pe_callA G__law_draw (Room.mono hr (by decide)) T.n__law_draw tk (pa_cons (pv 1) (pa_cons (pv 2) pa_nil)))))
      (pss_cons (ps_expr (pe_methS (pl := _) G_Links_apply (Room.mono hr (by decide)) T.cl_Links T.me_Links_apply tk (pv 6) (pa_cons (pe_callA G__law_operation (Room.mono hr (by decide)) T.n__law_operation tk (pa_cons (pv 3) (pa_cons (pv 10) pa_nil))) pa_nil)))
      (pss_one (ps_expr (pe_callA G__law_step (Room.mono hr (by decide)) T.n__law_step tk (pa_cons (pv 3) (pa_cons (pv 10) pa_nil))))))))
      (pss_one (ps_ret (pe_and (pe_callA G__law_asked (Room.mono hr (by decide)) T.n__law_asked tk (pa_cons (pv 6) (pa_cons (pv 3) pa_nil))) (pe_one (pe_callA G__law_asked (Room.mono hr (by decide)) T.n__law_asked tk (pa_cons (pv 7) (pa_cons (pv 5) pa_nil))))))))))))))))))), ?_⟩
  show (_ : Ends → L2.St → Hp → Prop) _ [some _, none, none, none, none, none, none, none, none, none, none] _
  try dsimp only [L2H.cxH, cxOf]
  walk_at "w"
  refine ⟨p, ns, rfl, hp, fun b q H1 hb B1 k1 => ?_⟩
  walk_at "w"
  refine ⟨b, q, rfl, B1, fun n H2 n0 n1 B2 k2 => ?_⟩
  walk_at "w"
  intro t ht
  have ht1 : upd H2 t (.lst (([0, 0, 1, 0, 2, 0] : List Int).map V.int)) t = some (.lst (([0, 0, 1, 0, 2, 0] : List Int).map V.int)) := upd_same
  have htb := B2.b ht
  have B2 := B2.new (o := .lst (([0, 0, 1, 0, 2, 0] : List Int).map V.int)) ht
  have e : (HO.lst [.int 0, .int 0, .int 1, .int 0, .int 2, .int 0]) = .lst (([0, 0, 1, 0, 2, 0] : List Int).map V.int) := rfl
  rw [e]
  generalize upd H2 t (.lst (([0, 0, 1, 0, 2, 0] : List Int).map V.int)) = H0 at ht1 B2 ⊢
  walk_at "w"
  refine ⟨b, q, _, rfl, B2, by omega, by omega, fun lo H3 lo0 lo1 B3 k3 => ?_⟩
  have ht3 := k3 t _ ht1 (by simpa using htb)
  walk_at "w"
  refine ⟨b, q, n, _, rfl, B3, n0, n1, fun w l r f s H4 h1 h2 h3 h4 W4 WF1 B4 k4 => ?_⟩
  have sW : ∀ y ∈ [w, l, r, f], y ∉ [b, q] := sep_of (H := H3) (four h1 h2 h3 h4) B3.live
  have sWb : ∀ y ∈ [w, l, r, f], y ∉ [b] := sep_sub sW (by simp)
  walk_at "w"
  refine ⟨b, q, _, rfl, B4, by omega, by omega, fun n2 H5 n20 n21 B5 k5 => ?_⟩
  have W5 : Bk H5 w l r f n s := Wd.kpS W4 k5 sWb
  walk_at "w"
  refine ⟨b, q, n2, 0, rfl, B5, n20, by omega, fun o ol or' of' s2 H7 g1 g2 g3 g4 O7 WF2 B7 k7 => ?_⟩
  have sO : ∀ y ∈ [o, ol, or', of'], y ∉ [b, q] ++ [w, l, r, f] := sep_of (H := H5) (four g1 g2 g3 g4) (live_app B5.live (Wd.live W5))
  have W7 : Bk H7 w l r f n s := Wd.kpS W5 k7 sWb
  clear W4 W5 B1 B2 B3 B4 B5 k1 k2 k3 k4 k5 k7 ht3 ht1 htb
  walk_at "w"
  refine ⟨w, l, r, f, n, s, rfl, W7, WF1, fun H8 k8 => ?_⟩
  have W8 := W7.kp0 k8
  have O8 := O7.kp0 k8
  have B8 := B7.kp k8
  walk_at "w"
  refine ⟨_, rfl, Nat.le_trans (text_len WF1).1 (by decide), read_text WF1 fun x xl xr xf H9 i1 i2 i3 i4 X9 k9 => ?_⟩
  have sX : ∀ y ∈ [x, xl, xr, xf], y ∉ [b, q] ++ ([w, l, r, f] ++ [o, ol, or', of']) := sep_of (H := H8) (four i1 i2 i3 i4) (live_app B8.live (live_app (Wd.live W8) (Wd.live O8)))
  have W9 := W8.kp0 k9
  have O9 := O8.kp0 k9
  have B9 := B8.kp k9
  walk_at "w"
  refine ⟨o, ol, or', of', n2, s2, rfl, O9, WF2, fun H10 k10 => ?_⟩
  have X10 := X9.kp0 k10
  have W10 := W9.kp0 k10
  have O10 := O9.kp0 k10
  have B10 := B9.kp k10
  walk_at "w"
  refine ⟨_, rfl, Nat.le_trans (text_len WF2).1 (by decide), read_text WF2 fun u ul ur uf H11 j1 j2 j3 j4 U11 k11 => ?_⟩
  have sU : ∀ y ∈ [u, ul, ur, uf], y ∉ [b, q] ++ ([w, l, r, f] ++ [x, xl, xr, xf]) := sep_of (H := H10) (four j1 j2 j3 j4) (live_app B10.live (live_app (Wd.live W10) X10.live))
  have X11 : LkS a H11 x xl xr xf n s := X10.kp0 k11
  have U11 : LkS a H11 u ul ur uf n2 s2 := U11
  have W11 := W10.kp0 k11
  have O11 := O10.kp0 k11
  have B11 := B10.kp k11
  clear W7 W8 W9 W10 O7 O8 O9 O10 B7 B8 B9 B10 X9 X10 k8 k9 k10 k11
  have oB : ∀ y ∈ [o, ol, or', of'], y ∉ [b] := sep_sub sO (by simp)
  have oW : ∀ y ∈ [o, ol, or', of'], y ∉ [l, r, f] := sep_sub sO (by simp)
  have oX : ∀ y ∈ [o, ol, or', of'], y ∉ [xl, xr, xf] := sep_swap (sep_mono (xs' := [xl, xr, xf]) (ys' := [o, ol, or', of']) sX (by simp) (by simp))
  have xB : ∀ y ∈ [x, xl, xr, xf], y ∉ [b] := sep_sub sX (by simp)
  have xW : ∀ y ∈ [x, xl, xr, xf], y ∉ [l, r, f] := sep_sub sX (by simp)
  have wX : ∀ y ∈ [w, l, r, f], y ∉ [xl, xr, xf] := sep_swap (sep_mono (xs' := [xl, xr, xf]) (ys' := [w, l, r, f]) sX (by simp) (by simp))
  have uB : ∀ y ∈ [u, ul, ur, uf], y ∉ [b] := sep_sub sU (by simp)
  have uW : ∀ y ∈ [u, ul, ur, uf], y ∉ [l, r, f] := sep_sub sU (by simp)
  have uX : ∀ y ∈ [u, ul, ur, uf], y ∉ [xl, xr, xf] := sep_sub sU (by simp)
  have bX : ∀ y ∈ [b, q], y ∉ [xl, xr, xf] := sep_swap (sep_mono (xs' := [xl, xr, xf]) (ys' := [b, q]) sX (by simp) (by simp))
  have bW : ∀ y ∈ [b, q], y ∉ [l, r, f] := sep_swap (sep_mono (xs' := [l, r, f]) (ys' := [b, q]) sW (by simp) (by simp))
  walk_at "w"
  refine ⟨x, xl, xr, xf, w, l, r, f, n, s, rfl, X11, W11, WF1, fun H12 k12 => ?_⟩
  walk_at "w"
  refine ⟨u, ul, ur, uf, o, ol, or', of', n2, s2, rfl, U11.kp0 k12, O11.kp0 k12, WF2, fun H13 k13 => ?_⟩
  have k113 := k12.trans0 k13
  have X13 : LkS a H13 x xl xr xf n s := X11.kp0 k113
  have U13 : LkS a H13 u ul ur uf n2 s2 := U11.kp0 k113
  have W13 : Bk H13 w l r f n s := W11.kp0 k113
  have O13 : Bk H13 o ol or' of' n2 s2 := O11.kp0 k113
  have B13 := B11.kp k113
  clear X11 U11 W11 O11 B11 k12 k13 k113
  have far : ∀ {ys : List Addr}, (∀ y ∈ ys, y ∉ [b]) → (∀ y ∈ ys, y ∉ [xl, xr, xf]) → (∀ y ∈ ys, y ∉ [l, r, f]) → ∀ y ∈ ys, y ∉ [b, xl, xr, xf, l, r, f] := fun h1 h2 h3 y hy z => by
    have z : y ∈ [b] ++ ([xl, xr, xf] ++ [l, r, f]) := z
    rcases List.mem_append.mp z with z | z
    · exact h1 y hy z
    · rcases List.mem_append.mp z with z | z
      · exact h2 y hy z
      · exact h3 y hy z
  walk_at "w"
  refine s_cut (fun σ' H' => ∃ s : St3, σ' = [some (.ref p), some (.ref b), some (.int n), some (.ref w), some (.int n2), some (.ref o), some (.ref x), some (.ref u), none, none, none] ∧ LkS a H' x xl xr xf n s ∧ Bk H' w l r f n s ∧ WFs n s ∧ Box H' b q ∧ LkS a H' u ul ur uf n2 s2 ∧ Bk H' o ol or' of' n2 s2) ?_ ?_
  · walk_at "w"
    refine ⟨w, l, r, f, n, s, rfl, W13, WF1, fun g H14 hg k14 hg14 => ?_⟩
    walk_at "w"
    intro E hE
    refine w_eqLI' (ns := lostL n s) (ms := []) (upd_new hE hg14) upd_same ?_
    have k15 := k14.new (o := .lst []) hE
    have X15 : LkS a (upd H14 E (.lst [])) x xl xr xf n s := X13.kp0 k15
    have W15 := W13.kp0 k15
    have U15 : LkS a (upd H14 E (.lst [])) u ul ur uf n2 s2 := U13.kp0 k15
    have O15 := O13.kp0 k15
    have B15 := B13.kp k15
    generalize upd H14 E (.lst []) = H15 at X15 W15 U15 O15 B15 ⊢
    by_cases c : lostL n s = []
    · rw [decide_eq_true c]
      have hno := (lostL_nil n0).mp c
      walk_at "w"
      refine ⟨b, q, x, xl, xr, xf, w, l, r, f, n, s, rfl, B15, X15, W15, WF1, hno, xB, xW, sWb, wX, bX, bW, fun t H16 B16 X16 W16 WF16 k16 => ?_⟩
      walk_at "w"
      exact ⟨t, rfl, X16, W16, WF16, B16, Lnk.kpS U15 k16 (far uB uX uW), Wd.kpS O15 k16 (far oB oX oW)⟩
    · rw [decide_eq_false c]
      walk_at "w"
      exact ⟨s, rfl, X15, W15, WF1, B15, U15, O15⟩
  clear X13 W13 WF1 B13 U13 O13
  clear s
  rintro σ' H14 ⟨s, rfl, X13, W13, WF1, B13, U13, O13⟩
  walk_at "w"
  refine ⟨b, q, _, rfl, B13, by omega, by omega, fun tn H15 tn0 tn1 B15 k15 => ?_⟩
  have X15 : LkS a H15 x xl xr xf n s := Lnk.kpS X13 k15 xB
  have U15 : LkS a H15 u ul ur uf n2 s2 := Lnk.kpS U13 k15 uB
  have W15 : Bk H15 w l r f n s := Wd.kpS W13 k15 sWb
  have O15 : Bk H15 o ol or' of' n2 s2 := Wd.kpS O13 k15 oB
  clear X13 U13 W13 O13 B13 k15
  walk_at "w"
  refine s_cut (fun σ' H' => H' = H15 ∧ ∃ ts : Int, 0 ≤ ts ∧ ts ≤ 12 ∧ (n = 0 → ts = 0) ∧ σ' = [some (.ref p), some (.ref b), some (.int n), some (.ref w), some (.int n2), some (.ref o), some (.ref x), some (.ref u), some (.int ts), none, none]) ?_ ?_
  · walk_at "w"
    refine w_ite (fun c => ?_) (fun c => ?_)
    · walk_at "w"
      exact ⟨rfl, 0, by omega, by omega, fun _ => rfl, rfl⟩
    · walk_at "w"
      exact ⟨rfl, tn, by omega, by omega, fun z => absurd z c, rfl⟩
  rintro σ' H16 ⟨e, ts, ts0, ts1, hts, rfl⟩
  subst e
  walk_at "w"
  refine w_rng1 (n := ts) (by omega) (by omega) (fun i σ' H' => ∃ (s : St3) (z9 z10 : Option V), σ' = [some (.ref p), some (.ref b), some (.int n), some (.ref w), some (.int n2), some (.ref o), some (.ref x), some (.ref u), some (.int ts), z9, z10] ∧ LkS a H' x xl xr xf n s ∧ Bk H' w l r f n s ∧ WFs n s ∧ Box H' b q ∧ LkS a H' u ul ur uf n2 s2 ∧ Bk H' o ol or' of' n2 s2) ⟨s, _, _, rfl, X15, W15, WF1, B15, U15, O15⟩ ?_ ?_
  · clear X15 W15 WF1 B15 U15 O15
    clear s
    rintro i σ' H1 hi ⟨s, z9, z10, rfl, X1, W1, WF1, B1, U1, O1⟩
    have hn : 1 ≤ n := by
      rcases Int.lt_or_le 0 n with z | z
      · omega
      · have : n = 0 := by omega
        have := hts this
        omega
    walk_at "w"
    refine ⟨b, q, _, rfl, B1, by omega, by omega, fun nd H2 nd0 nd1 B2 k2 => ?_⟩
    have X2 : LkS a H2 x xl xr xf n s := Lnk.kpS X1 k2 xB
    have U2 : LkS a H2 u ul ur uf n2 s2 := Lnk.kpS U1 k2 uB
    have W2 : Bk H2 w l r f n s := Wd.kpS W1 k2 sWb
    have O2 : Bk H2 o ol or' of' n2 s2 := Wd.kpS O1 k2 oB
    have hx2 := X2.1.choose_spec
    obtain ⟨hop, hab, hok⟩ := opF_ok (s := s) (v := 1 + nd) (n := n) (by omega) (by omega)
    walk_at "w"
    refine ⟨w, l, r, f, n, 1 + nd, s, rfl, W2, WF1, by omega, by omega, ?_⟩
    have ho1 := hop.1
    have ho2 := hop.2
    have qa := WF.at WF1 (v := (opF s (1 + nd)).natAbs) (by omega) ho2
    have eR : (s.1 ++ [n + 2]).getD (opF s (1 + nd)).natAbs default = s.1.getD (opF s (1 + nd)).natAbs default := gd_app' WF1 (by omega)
    walk_at "w"
    refine ⟨x, xl, xr, xf, n, opF s (1 + nd), _, _, _, rfl, X2, WF.hL WF1, bk_len WF1, WF.hF WF1, fun z => absurd hop z, fun _ z => absurd z hok.2, fun _ _ => ⟨by omega, by omega, by omega, by omega, fun H3 X3 k3 => ?_⟩⟩
    have ea := ap_app WF1 (x := n + 2) hop
    rw [ea.1, ea.2] at X3
    have X3 : LkS a H3 x xl xr xf n (stS s (opF s (1 + nd))) := X3
    have W3 : Bk H3 w l r f n s := Wd.kpS W2 k3 wX
    have U3 : LkS a H3 u ul ur uf n2 s2 := Lnk.kpS U2 k3 uX
    have O3 : Bk H3 o ol or' of' n2 s2 := Wd.kpS O2 k3 oX
    have B3 := B2.kpm k3 (bX b (by simp)) (bX q (by simp))
    walk_at "w"
    refine ⟨w, l, r, f, n, 1 + nd, s, rfl, W3, WF1, by omega, by omega, fun H4 W4 WF4 k4 => ?_⟩
    have X4 : LkS a H4 x xl xr xf n (stS s (opF s (1 + nd))) := Lnk.kpS X3 k4 xW
    have U4 : LkS a H4 u ul ur uf n2 s2 := Lnk.kpS U3 k4 uW
    have O4 : Bk H4 o ol or' of' n2 s2 := Wd.kpS O3 k4 oW
    have B4 := B3.kpm k4 (bW b (by simp)) (bW q (by simp))
    walk_at "w"
    exact ⟨_, _, _, rfl, X4, W4, WF4, B4, U4, O4⟩
  · clear X15 W15 WF1 B15 U15 O15
    clear s
    rintro σ' H1 ⟨s, z9, z10, rfl, X1, W1, WF1, B1, U1, O1⟩
    walk_at "w"
    refine ⟨x, xl, xr, xf, w, l, r, f, n, s, rfl, X1, W1, WF1, fun H2 k2 => ?_⟩
    walk_at "w"
    exact ⟨u, ul, ur, uf, o, ol, or', of', n2, s2, rfl, U1.kp0 k2, O1.kp0 k2, WF2, fun H3 _ => k H3⟩
theorem SqL.kp' {K : PySem.W.Frag} {H H' : Hp} {p : Addr} {xs : List V} (h : SqL K H p xs) (k : Kp [] H H') : SqL K H' p xs := by
  rcases h with h | h
  · rcases h with h | ⟨o, h⟩
    · exact .inl (.inl (k.at0 h))
    · exact .inl (.inr ⟨o, k.at0 h⟩)
  · exact .inr h
theorem spL_ok {K : PySem.W.Frag} {H : Hp} {a : Addr} {ns : List Int} (hl : ns.length ≤ 63) (hS : SqL K H a (ns.map V.int)) : spL K [.ref a] H (fun v _ => v = .bl true) fun _ _ _ => False := ⟨a, ns, rfl, hS, hl, fun H' k => SqL.kp' hS k, fun _ => rfl⟩
/-- what the top has left -/
theorem all_mk {P : Program} {w : World} {K : PySem.W.Frag} {h : Heap} {mg : Str → Option Value} {fa : Addr} (X : K.In h) (G : h.Ns mainGlobals mg) (hfa : mg "law" = some (.ref fa))
    {f_check_size : Addr} {oc_check_size kV_check_size dc_check_size pm_check_size cd_check_size ct_check_size : Value} {od_check_size an_check_size : Option Addr} {sl_check_size : Array (Option Value)}
    {f_check_operation : Addr} {oc_check_operation kV_check_operation dc_check_operation pm_check_operation cd_check_operation ct_check_operation : Value} {od_check_operation an_check_operation : Option Addr} {sl_check_operation : Array (Option Value)}
    {f_is_number : Addr} {oc_is_number kV_is_number dc_is_number pm_is_number cd_is_number ct_is_number : Value} {od_is_number an_is_number : Option Addr} {sl_is_number : Array (Option Value)}
    {f_check_gap : Addr} {oc_check_gap kV_check_gap dc_check_gap pm_check_gap cd_check_gap ct_check_gap : Value} {od_check_gap an_check_gap : Option Addr} {sl_check_gap : Array (Option Value)}
    {f_left_holds : Addr} {oc_left_holds kV_left_holds dc_left_holds pm_left_holds cd_left_holds ct_left_holds : Value} {od_left_holds an_left_holds : Option Addr} {sl_left_holds : Array (Option Value)}
    {f_right_holds : Addr} {oc_right_holds kV_right_holds dc_right_holds pm_right_holds cd_right_holds ct_right_holds : Value} {od_right_holds an_right_holds : Option Addr} {sl_right_holds : Array (Option Value)}
    {f_gap_state : Addr} {oc_gap_state kV_gap_state dc_gap_state pm_gap_state cd_gap_state ct_gap_state : Value} {od_gap_state an_gap_state : Option Addr} {sl_gap_state : Array (Option Value)}
    {f_gap_states : Addr} {oc_gap_states kV_gap_states dc_gap_states pm_gap_states cd_gap_states ct_gap_states : Value} {od_gap_states an_gap_states : Option Addr} {sl_gap_states : Array (Option Value)}
    {f_lost_gaps : Addr} {oc_lost_gaps kV_lost_gaps dc_lost_gaps pm_lost_gaps cd_lost_gaps ct_lost_gaps : Value} {od_lost_gaps an_lost_gaps : Option Addr} {sl_lost_gaps : Array (Option Value)}
    {f_foreign_writes : Addr} {oc_foreign_writes kV_foreign_writes dc_foreign_writes pm_foreign_writes cd_foreign_writes ct_foreign_writes : Value} {od_foreign_writes an_foreign_writes : Option Addr} {sl_foreign_writes : Array (Option Value)}
    {f_check_repairable : Addr} {oc_check_repairable kV_check_repairable dc_check_repairable pm_check_repairable cd_check_repairable ct_check_repairable : Value} {od_check_repairable an_check_repairable : Option Addr} {sl_check_repairable : Array (Option Value)}
    {f_is_due : Addr} {oc_is_due kV_is_due dc_is_due pm_is_due cd_is_due ct_is_due : Value} {od_is_due an_is_due : Option Addr} {sl_is_due : Array (Option Value)}
    {f__share : Addr} {oc__share kV__share dc__share pm__share cd__share ct__share : Value} {od__share an__share : Option Addr} {sl__share : Array (Option Value)}
    {f_is_repairable : Addr} {oc_is_repairable kV_is_repairable dc_is_repairable pm_is_repairable cd_is_repairable ct_is_repairable : Value} {od_is_repairable an_is_repairable : Option Addr} {sl_is_repairable : Array (Option Value)}
    {f_due_nodes : Addr} {oc_due_nodes kV_due_nodes dc_due_nodes pm_due_nodes cd_due_nodes ct_due_nodes : Value} {od_due_nodes an_due_nodes : Option Addr} {sl_due_nodes : Array (Option Value)}
    {f_settled_debt : Addr} {oc_settled_debt kV_settled_debt dc_settled_debt pm_settled_debt cd_settled_debt ct_settled_debt : Value} {od_settled_debt an_settled_debt : Option Addr} {sl_settled_debt : Array (Option Value)}
    {f_debt_of : Addr} {oc_debt_of kV_debt_of dc_debt_of pm_debt_of cd_debt_of ct_debt_of : Value} {od_debt_of an_debt_of : Option Addr} {sl_debt_of : Array (Option Value)}
    {f__numbers : Addr} {oc__numbers kV__numbers dc__numbers pm__numbers cd__numbers ct__numbers : Value} {od__numbers an__numbers : Option Addr} {sl__numbers : Array (Option Value)}
    {f__read_rights : Addr} {oc__read_rights kV__read_rights dc__read_rights pm__read_rights cd__read_rights ct__read_rights : Value} {od__read_rights an__read_rights : Option Addr} {sl__read_rights : Array (Option Value)}
    {f__read_lefts : Addr} {oc__read_lefts kV__read_lefts dc__read_lefts pm__read_lefts cd__read_lefts ct__read_lefts : Value} {od__read_lefts an__read_lefts : Option Addr} {sl__read_lefts : Array (Option Value)}
    {f__read_outs : Addr} {oc__read_outs kV__read_outs dc__read_outs pm__read_outs cd__read_outs ct__read_outs : Value} {od__read_outs an__read_outs : Option Addr} {sl__read_outs : Array (Option Value)}
    {f_lowers : Addr} {oc_lowers kV_lowers dc_lowers pm_lowers cd_lowers ct_lowers : Value} {od_lowers an_lowers : Option Addr} {sl_lowers : Array (Option Value)}
    {f__first_lowering : Addr} {oc__first_lowering kV__first_lowering dc__first_lowering pm__first_lowering cd__first_lowering ct__first_lowering : Value} {od__first_lowering an__first_lowering : Option Addr} {sl__first_lowering : Array (Option Value)}
    {f_first_repair : Addr} {oc_first_repair kV_first_repair dc_first_repair pm_first_repair cd_first_repair ct_first_repair : Value} {od_first_repair an_first_repair : Option Addr} {sl_first_repair : Array (Option Value)}
    {f__law_bag : Addr} {oc__law_bag kV__law_bag dc__law_bag pm__law_bag cd__law_bag ct__law_bag : Value} {od__law_bag an__law_bag : Option Addr} {sl__law_bag : Array (Option Value)}
    {f__law_draw : Addr} {oc__law_draw kV__law_draw dc__law_draw pm__law_draw cd__law_draw ct__law_draw : Value} {od__law_draw an__law_draw : Option Addr} {sl__law_draw : Array (Option Value)}
    {f__law_size : Addr} {oc__law_size kV__law_size dc__law_size pm__law_size cd__law_size ct__law_size : Value} {od__law_size an__law_size : Option Addr} {sl__law_size : Array (Option Value)}
    {f__law_standing : Addr} {oc__law_standing kV__law_standing dc__law_standing pm__law_standing cd__law_standing ct__law_standing : Value} {od__law_standing an__law_standing : Option Addr} {sl__law_standing : Array (Option Value)}
    {f__law_dump : Addr} {oc__law_dump kV__law_dump dc__law_dump pm__law_dump cd__law_dump ct__law_dump : Value} {od__law_dump an__law_dump : Option Addr} {sl__law_dump : Array (Option Value)}
    {f__law_copy : Addr} {oc__law_copy kV__law_copy dc__law_copy pm__law_copy cd__law_copy ct__law_copy : Value} {od__law_copy an__law_copy : Option Addr} {sl__law_copy : Array (Option Value)}
    {f__law_step : Addr} {oc__law_step kV__law_step dc__law_step pm__law_step cd__law_step ct__law_step : Value} {od__law_step an__law_step : Option Addr} {sl__law_step : Array (Option Value)}
    {f__law_operation : Addr} {oc__law_operation kV__law_operation dc__law_operation pm__law_operation cd__law_operation ct__law_operation : Value} {od__law_operation an__law_operation : Option Addr} {sl__law_operation : Array (Option Value)}
    {f__law_is_whole : Addr} {oc__law_is_whole kV__law_is_whole dc__law_is_whole pm__law_is_whole cd__law_is_whole ct__law_is_whole : Value} {od__law_is_whole an__law_is_whole : Option Addr} {sl__law_is_whole : Array (Option Value)}
    {f__law_lost : Addr} {oc__law_lost kV__law_lost dc__law_lost pm__law_lost cd__law_lost ct__law_lost : Value} {od__law_lost an__law_lost : Option Addr} {sl__law_lost : Array (Option Value)}
    {f__law_is_due : Addr} {oc__law_is_due kV__law_is_due dc__law_is_due pm__law_is_due cd__law_is_due ct__law_is_due : Value} {od__law_is_due an__law_is_due : Option Addr} {sl__law_is_due : Array (Option Value)}
    {f__law_due : Addr} {oc__law_due kV__law_due dc__law_due pm__law_due cd__law_due ct__law_due : Value} {od__law_due an__law_due : Option Addr} {sl__law_due : Array (Option Value)}
    {f__law_owed : Addr} {oc__law_owed kV__law_owed dc__law_owed pm__law_owed cd__law_owed ct__law_owed : Value} {od__law_owed an__law_owed : Option Addr} {sl__law_owed : Array (Option Value)}
    {f__law_lowers : Addr} {oc__law_lowers kV__law_lowers dc__law_lowers pm__law_lowers cd__law_lowers ct__law_lowers : Value} {od__law_lowers an__law_lowers : Option Addr} {sl__law_lowers : Array (Option Value)}
    {f__law_number : Addr} {oc__law_number kV__law_number dc__law_number pm__law_number cd__law_number ct__law_number : Value} {od__law_number an__law_number : Option Addr} {sl__law_number : Array (Option Value)}
    {f__law_numbers : Addr} {oc__law_numbers kV__law_numbers dc__law_numbers pm__law_numbers cd__law_numbers ct__law_numbers : Value} {od__law_numbers an__law_numbers : Option Addr} {sl__law_numbers : Array (Option Value)}
    {f__law_is_first : Addr} {oc__law_is_first kV__law_is_first dc__law_is_first pm__law_is_first cd__law_is_first ct__law_is_first : Value} {od__law_is_first an__law_is_first : Option Addr} {sl__law_is_first : Array (Option Value)}
    {f__law_acts_fit : Addr} {oc__law_acts_fit kV__law_acts_fit dc__law_acts_fit pm__law_acts_fit cd__law_acts_fit ct__law_acts_fit : Value} {od__law_acts_fit an__law_acts_fit : Option Addr} {sl__law_acts_fit : Array (Option Value)}
    {f__law_asked : Addr} {oc__law_asked kV__law_asked dc__law_asked pm__law_asked cd__law_asked ct__law_asked : Value} {od__law_asked an__law_asked : Option Addr} {sl__law_asked : Array (Option Value)}
    {f__law_begun : Addr} {oc__law_begun kV__law_begun dc__law_begun pm__law_begun cd__law_begun ct__law_begun : Value} {od__law_begun an__law_begun : Option Addr} {sl__law_begun : Array (Option Value)}
    {f_law : Addr} {oc_law kV_law dc_law pm_law cd_law ct_law : Value} {od_law an_law : Option Addr} {sl_law : Array (Option Value)}
    {f_Links___init__ : Addr} {oc_Links___init__ kV_Links___init__ dc_Links___init__ pm_Links___init__ cd_Links___init__ ct_Links___init__ : Value} {od_Links___init__ an_Links___init__ : Option Addr} {sl_Links___init__ : Array (Option Value)}
    {f_Links_built : Addr} {oc_Links_built kV_Links_built dc_Links_built pm_Links_built cd_Links_built ct_Links_built : Value} {od_Links_built an_Links_built : Option Addr} {sl_Links_built : Array (Option Value)}
    {f_Links_read : Addr} {oc_Links_read kV_Links_read dc_Links_read pm_Links_read cd_Links_read ct_Links_read : Value} {od_Links_read an_Links_read : Option Addr} {sl_Links_read : Array (Option Value)}
    {f_Links_left : Addr} {oc_Links_left kV_Links_left dc_Links_left pm_Links_left cd_Links_left ct_Links_left : Value} {od_Links_left an_Links_left : Option Addr} {sl_Links_left : Array (Option Value)}
    {f_Links_right : Addr} {oc_Links_right kV_Links_right dc_Links_right pm_Links_right cd_Links_right ct_Links_right : Value} {od_Links_right an_Links_right : Option Addr} {sl_Links_right : Array (Option Value)}
    {f_Links_is_out : Addr} {oc_Links_is_out kV_Links_is_out dc_Links_is_out pm_Links_is_out cd_Links_is_out ct_Links_is_out : Value} {od_Links_is_out an_Links_is_out : Option Addr} {sl_Links_is_out : Array (Option Value)}
    {f_Links_operation_on : Addr} {oc_Links_operation_on kV_Links_operation_on dc_Links_operation_on pm_Links_operation_on cd_Links_operation_on ct_Links_operation_on : Value} {od_Links_operation_on an_Links_operation_on : Option Addr} {sl_Links_operation_on : Array (Option Value)}
    {f_Links_apply : Addr} {oc_Links_apply kV_Links_apply dc_Links_apply pm_Links_apply cd_Links_apply ct_Links_apply : Value} {od_Links_apply an_Links_apply : Option Addr} {sl_Links_apply : Array (Option Value)}
    {f_Links_apply_at : Addr} {oc_Links_apply_at kV_Links_apply_at dc_Links_apply_at pm_Links_apply_at cd_Links_apply_at ct_Links_apply_at : Value} {od_Links_apply_at an_Links_apply_at : Option Addr} {sl_Links_apply_at : Array (Option Value)}
    {f_Links_copy : Addr} {oc_Links_copy kV_Links_copy dc_Links_copy pm_Links_copy cd_Links_copy ct_Links_copy : Value} {od_Links_copy an_Links_copy : Option Addr} {sl_Links_copy : Array (Option Value)}
    {f_Links_dump : Addr} {oc_Links_dump kV_Links_dump dc_Links_dump pm_Links_dump cd_Links_dump ct_Links_dump : Value} {od_Links_dump an_Links_dump : Option Addr} {sl_Links_dump : Array (Option Value)}
    {f_Links__dump_parts : Addr} {oc_Links__dump_parts kV_Links__dump_parts dc_Links__dump_parts pm_Links__dump_parts cd_Links__dump_parts ct_Links__dump_parts : Value} {od_Links__dump_parts an_Links__dump_parts : Option Addr} {sl_Links__dump_parts : Array (Option Value)}
    {LinkError : Addr}
    {LogError : Addr}
    {BadOperation : Addr} {i_BadOperation : Addr}
    {Illegal : Addr} {i_Illegal : Addr}
    {BadSize : Addr} {i_BadSize : Addr}
    {BadNode : Addr} {i_BadNode : Addr}
    {BadGap : Addr} {i_BadGap : Addr}
    {BadDump : Addr} {i_BadDump : Addr}
    {NotRepairable : Addr} {i_NotRepairable : Addr}
    {t_MOST_NODES : Tok}
    {t_MOST_DIGITS : Tok}
    {t_PARTS : Tok}
    {Links : Addr}
    {t_Links_MOST : Tok}
    {p_Links_built : Addr} {rest_Links_built : List Value}
    {p_Links_read : Addr} {rest_Links_read : List Value}
    (a_Links : PySem.W.nsIn K mainGlobals "Links" = some (some (.ref Links)))
    (cl_Links : Cls K Links)
    (rd_Links : ClX.CRead K Links (.type "type"))
    (mk1_Links : PySem.W.makesIn K Links = true) (mk2_Links : PySem.W.findIn K (.ref Links) "__init__" = some (some (.ref f_Links___init__))) (mk3_Links : PySem.W.isFn K (.ref f_Links___init__) = true) (mk4_Links : PySem.W.keepIn K (.ref Links) = true)
    (na_Links_size : NoAttr K Links "size")
    (na_Links__lefts : NoAttr K Links "_lefts")
    (na_Links__rights : NoAttr K Links "_rights")
    (na_Links__flags : NoAttr K Links "_flags")
    (cv_Links_MOST : PySem.W.findCls K (.ref Links) (.type "type") "MOST" = some (.val (.int 60 t_Links_MOST)))
    (l_Links___init__ : K.lookup f_Links___init__ = some ⟨oc_Links___init__, od_Links___init__, .func (PySem.W.fnOf "__init__" "Links.__init__" (defArgs s_Links___init__) (defBody s_Links___init__) (defScope s_Links___init__) .none kV_Links___init__ dc_Links___init__ pm_Links___init__ an_Links___init__ cd_Links___init__ ct_Links___init__), sl_Links___init__⟩) (c_Links___init__ : PySem.W.codeIn K cd_Links___init__ "Links.__init__" = true) (k_Links___init__ : PySem.W.keepIn K (.ref f_Links___init__) = true)
    (st1_Links_built : PySem.W.findCls K (.ref Links) (.type "type") "built" = some (.get (.builtin "staticmethod.__get__") (.ref p_Links_built) .none (.ref Links))) (st2_Links_built : PySem.W.recIn K p_Links_built "staticmethod" = some (.ref f_Links_built :: rest_Links_built))
    (l_Links_built : K.lookup f_Links_built = some ⟨oc_Links_built, od_Links_built, .func (PySem.W.fnOf "built" "Links.built" (defArgs s_Links_built) (defBody s_Links_built) (defScope s_Links_built) .none kV_Links_built dc_Links_built pm_Links_built an_Links_built cd_Links_built ct_Links_built), sl_Links_built⟩) (c_Links_built : PySem.W.codeIn K cd_Links_built "Links.built" = true) (k_Links_built : PySem.W.keepIn K (.ref f_Links_built) = true)
    (st1_Links_read : PySem.W.findCls K (.ref Links) (.type "type") "read" = some (.get (.builtin "staticmethod.__get__") (.ref p_Links_read) .none (.ref Links))) (st2_Links_read : PySem.W.recIn K p_Links_read "staticmethod" = some (.ref f_Links_read :: rest_Links_read))
    (l_Links_read : K.lookup f_Links_read = some ⟨oc_Links_read, od_Links_read, .func (PySem.W.fnOf "read" "Links.read" (defArgs s_Links_read) (defBody s_Links_read) (defScope s_Links_read) .none kV_Links_read dc_Links_read pm_Links_read an_Links_read cd_Links_read ct_Links_read), sl_Links_read⟩) (c_Links_read : PySem.W.codeIn K cd_Links_read "Links.read" = true) (k_Links_read : PySem.W.keepIn K (.ref f_Links_read) = true)
    (me1_Links_left : PySem.W.findIn K (.ref Links) "left" = some (some (.ref f_Links_left))) (me2_Links_left : PySem.W.isFn K (.ref f_Links_left) = true)
    (l_Links_left : K.lookup f_Links_left = some ⟨oc_Links_left, od_Links_left, .func (PySem.W.fnOf "left" "Links.left" (defArgs s_Links_left) (defBody s_Links_left) (defScope s_Links_left) .none kV_Links_left dc_Links_left pm_Links_left an_Links_left cd_Links_left ct_Links_left), sl_Links_left⟩) (c_Links_left : PySem.W.codeIn K cd_Links_left "Links.left" = true) (k_Links_left : PySem.W.keepIn K (.ref f_Links_left) = true)
    (me1_Links_right : PySem.W.findIn K (.ref Links) "right" = some (some (.ref f_Links_right))) (me2_Links_right : PySem.W.isFn K (.ref f_Links_right) = true)
    (l_Links_right : K.lookup f_Links_right = some ⟨oc_Links_right, od_Links_right, .func (PySem.W.fnOf "right" "Links.right" (defArgs s_Links_right) (defBody s_Links_right) (defScope s_Links_right) .none kV_Links_right dc_Links_right pm_Links_right an_Links_right cd_Links_right ct_Links_right), sl_Links_right⟩) (c_Links_right : PySem.W.codeIn K cd_Links_right "Links.right" = true) (k_Links_right : PySem.W.keepIn K (.ref f_Links_right) = true)
    (me1_Links_is_out : PySem.W.findIn K (.ref Links) "is_out" = some (some (.ref f_Links_is_out))) (me2_Links_is_out : PySem.W.isFn K (.ref f_Links_is_out) = true)
    (l_Links_is_out : K.lookup f_Links_is_out = some ⟨oc_Links_is_out, od_Links_is_out, .func (PySem.W.fnOf "is_out" "Links.is_out" (defArgs s_Links_is_out) (defBody s_Links_is_out) (defScope s_Links_is_out) .none kV_Links_is_out dc_Links_is_out pm_Links_is_out an_Links_is_out cd_Links_is_out ct_Links_is_out), sl_Links_is_out⟩) (c_Links_is_out : PySem.W.codeIn K cd_Links_is_out "Links.is_out" = true) (k_Links_is_out : PySem.W.keepIn K (.ref f_Links_is_out) = true)
    (me1_Links_operation_on : PySem.W.findIn K (.ref Links) "operation_on" = some (some (.ref f_Links_operation_on))) (me2_Links_operation_on : PySem.W.isFn K (.ref f_Links_operation_on) = true)
    (l_Links_operation_on : K.lookup f_Links_operation_on = some ⟨oc_Links_operation_on, od_Links_operation_on, .func (PySem.W.fnOf "operation_on" "Links.operation_on" (defArgs s_Links_operation_on) (defBody s_Links_operation_on) (defScope s_Links_operation_on) .none kV_Links_operation_on dc_Links_operation_on pm_Links_operation_on an_Links_operation_on cd_Links_operation_on ct_Links_operation_on), sl_Links_operation_on⟩) (c_Links_operation_on : PySem.W.codeIn K cd_Links_operation_on "Links.operation_on" = true) (k_Links_operation_on : PySem.W.keepIn K (.ref f_Links_operation_on) = true)
    (me1_Links_apply : PySem.W.findIn K (.ref Links) "apply" = some (some (.ref f_Links_apply))) (me2_Links_apply : PySem.W.isFn K (.ref f_Links_apply) = true)
    (l_Links_apply : K.lookup f_Links_apply = some ⟨oc_Links_apply, od_Links_apply, .func (PySem.W.fnOf "apply" "Links.apply" (defArgs s_Links_apply) (defBody s_Links_apply) (defScope s_Links_apply) .none kV_Links_apply dc_Links_apply pm_Links_apply an_Links_apply cd_Links_apply ct_Links_apply), sl_Links_apply⟩) (c_Links_apply : PySem.W.codeIn K cd_Links_apply "Links.apply" = true) (k_Links_apply : PySem.W.keepIn K (.ref f_Links_apply) = true)
    (me1_Links_apply_at : PySem.W.findIn K (.ref Links) "apply_at" = some (some (.ref f_Links_apply_at))) (me2_Links_apply_at : PySem.W.isFn K (.ref f_Links_apply_at) = true)
    (l_Links_apply_at : K.lookup f_Links_apply_at = some ⟨oc_Links_apply_at, od_Links_apply_at, .func (PySem.W.fnOf "apply_at" "Links.apply_at" (defArgs s_Links_apply_at) (defBody s_Links_apply_at) (defScope s_Links_apply_at) .none kV_Links_apply_at dc_Links_apply_at pm_Links_apply_at an_Links_apply_at cd_Links_apply_at ct_Links_apply_at), sl_Links_apply_at⟩) (c_Links_apply_at : PySem.W.codeIn K cd_Links_apply_at "Links.apply_at" = true) (k_Links_apply_at : PySem.W.keepIn K (.ref f_Links_apply_at) = true)
    (me1_Links_copy : PySem.W.findIn K (.ref Links) "copy" = some (some (.ref f_Links_copy))) (me2_Links_copy : PySem.W.isFn K (.ref f_Links_copy) = true)
    (l_Links_copy : K.lookup f_Links_copy = some ⟨oc_Links_copy, od_Links_copy, .func (PySem.W.fnOf "copy" "Links.copy" (defArgs s_Links_copy) (defBody s_Links_copy) (defScope s_Links_copy) .none kV_Links_copy dc_Links_copy pm_Links_copy an_Links_copy cd_Links_copy ct_Links_copy), sl_Links_copy⟩) (c_Links_copy : PySem.W.codeIn K cd_Links_copy "Links.copy" = true) (k_Links_copy : PySem.W.keepIn K (.ref f_Links_copy) = true)
    (me1_Links_dump : PySem.W.findIn K (.ref Links) "dump" = some (some (.ref f_Links_dump))) (me2_Links_dump : PySem.W.isFn K (.ref f_Links_dump) = true)
    (l_Links_dump : K.lookup f_Links_dump = some ⟨oc_Links_dump, od_Links_dump, .func (PySem.W.fnOf "dump" "Links.dump" (defArgs s_Links_dump) (defBody s_Links_dump) (defScope s_Links_dump) .none kV_Links_dump dc_Links_dump pm_Links_dump an_Links_dump cd_Links_dump ct_Links_dump), sl_Links_dump⟩) (c_Links_dump : PySem.W.codeIn K cd_Links_dump "Links.dump" = true) (k_Links_dump : PySem.W.keepIn K (.ref f_Links_dump) = true)
    (me1_Links__dump_parts : PySem.W.findIn K (.ref Links) "_dump_parts" = some (some (.ref f_Links__dump_parts))) (me2_Links__dump_parts : PySem.W.isFn K (.ref f_Links__dump_parts) = true)
    (l_Links__dump_parts : K.lookup f_Links__dump_parts = some ⟨oc_Links__dump_parts, od_Links__dump_parts, .func (PySem.W.fnOf "_dump_parts" "Links._dump_parts" (defArgs s_Links__dump_parts) (defBody s_Links__dump_parts) (defScope s_Links__dump_parts) .none kV_Links__dump_parts dc_Links__dump_parts pm_Links__dump_parts an_Links__dump_parts cd_Links__dump_parts ct_Links__dump_parts), sl_Links__dump_parts⟩) (c_Links__dump_parts : PySem.W.codeIn K cd_Links__dump_parts "Links._dump_parts" = true) (k_Links__dump_parts : PySem.W.keepIn K (.ref f_Links__dump_parts) = true)
    (a_LinkError : PySem.W.nsIn K mainGlobals "LinkError" = some (some (.ref LinkError)))
    (a_LogError : PySem.W.nsIn K mainGlobals "LogError" = some (some (.ref LogError)))
    (a_BadOperation : PySem.W.nsIn K mainGlobals "BadOperation" = some (some (.ref BadOperation)))
    (a_Illegal : PySem.W.nsIn K mainGlobals "Illegal" = some (some (.ref Illegal)))
    (a_BadSize : PySem.W.nsIn K mainGlobals "BadSize" = some (some (.ref BadSize)))
    (a_BadNode : PySem.W.nsIn K mainGlobals "BadNode" = some (some (.ref BadNode)))
    (a_BadGap : PySem.W.nsIn K mainGlobals "BadGap" = some (some (.ref BadGap)))
    (a_BadDump : PySem.W.nsIn K mainGlobals "BadDump" = some (some (.ref BadDump)))
    (a_NotRepairable : PySem.W.nsIn K mainGlobals "NotRepairable" = some (some (.ref NotRepairable)))
    (d_LinkError : DC K LinkError)
    (d_LogError : DC K LogError)
    (d_BadOperation : DC K BadOperation)
    (d_Illegal : DC K Illegal)
    (d_BadSize : DC K BadSize)
    (d_BadNode : DC K BadNode)
    (d_BadGap : DC K BadGap)
    (d_BadDump : DC K BadDump)
    (d_NotRepairable : DC K NotRepairable)
    (x_BadOperation : LkX.ExcTxt P K BadOperation i_BadOperation ["operation", "index"])
    (e_BadOperation : ExcC K BadOperation ∧ XfC K BadOperation)
    (s_BadOperation_LinkError : PySem.W.subIn K (.ref BadOperation) (.ref LinkError) = some true)
    (s_BadOperation_LogError : PySem.W.subIn K (.ref BadOperation) (.ref LogError) = some true)
    (s_BadOperation_BadOperation : PySem.W.subIn K (.ref BadOperation) (.ref BadOperation) = some true)
    (s_BadOperation_Illegal : PySem.W.subIn K (.ref BadOperation) (.ref Illegal) = some false)
    (s_BadOperation_BadSize : PySem.W.subIn K (.ref BadOperation) (.ref BadSize) = some false)
    (s_BadOperation_BadNode : PySem.W.subIn K (.ref BadOperation) (.ref BadNode) = some false)
    (s_BadOperation_BadGap : PySem.W.subIn K (.ref BadOperation) (.ref BadGap) = some false)
    (s_BadOperation_BadDump : PySem.W.subIn K (.ref BadOperation) (.ref BadDump) = some false)
    (s_BadOperation_NotRepairable : PySem.W.subIn K (.ref BadOperation) (.ref NotRepairable) = some false)
    (x_Illegal : LkX.ExcTxt P K Illegal i_Illegal ["operation", "index"])
    (e_Illegal : ExcC K Illegal ∧ XfC K Illegal)
    (s_Illegal_LinkError : PySem.W.subIn K (.ref Illegal) (.ref LinkError) = some true)
    (s_Illegal_LogError : PySem.W.subIn K (.ref Illegal) (.ref LogError) = some true)
    (s_Illegal_BadOperation : PySem.W.subIn K (.ref Illegal) (.ref BadOperation) = some false)
    (s_Illegal_Illegal : PySem.W.subIn K (.ref Illegal) (.ref Illegal) = some true)
    (s_Illegal_BadSize : PySem.W.subIn K (.ref Illegal) (.ref BadSize) = some false)
    (s_Illegal_BadNode : PySem.W.subIn K (.ref Illegal) (.ref BadNode) = some false)
    (s_Illegal_BadGap : PySem.W.subIn K (.ref Illegal) (.ref BadGap) = some false)
    (s_Illegal_BadDump : PySem.W.subIn K (.ref Illegal) (.ref BadDump) = some false)
    (s_Illegal_NotRepairable : PySem.W.subIn K (.ref Illegal) (.ref NotRepairable) = some false)
    (x_BadSize : LkX.ExcTxt P K BadSize i_BadSize ["size"])
    (e_BadSize : ExcC K BadSize ∧ XfC K BadSize)
    (s_BadSize_LinkError : PySem.W.subIn K (.ref BadSize) (.ref LinkError) = some true)
    (s_BadSize_LogError : PySem.W.subIn K (.ref BadSize) (.ref LogError) = some false)
    (s_BadSize_BadOperation : PySem.W.subIn K (.ref BadSize) (.ref BadOperation) = some false)
    (s_BadSize_Illegal : PySem.W.subIn K (.ref BadSize) (.ref Illegal) = some false)
    (s_BadSize_BadSize : PySem.W.subIn K (.ref BadSize) (.ref BadSize) = some true)
    (s_BadSize_BadNode : PySem.W.subIn K (.ref BadSize) (.ref BadNode) = some false)
    (s_BadSize_BadGap : PySem.W.subIn K (.ref BadSize) (.ref BadGap) = some false)
    (s_BadSize_BadDump : PySem.W.subIn K (.ref BadSize) (.ref BadDump) = some false)
    (s_BadSize_NotRepairable : PySem.W.subIn K (.ref BadSize) (.ref NotRepairable) = some false)
    (x_BadNode : LkX.ExcTxt P K BadNode i_BadNode ["node"])
    (e_BadNode : ExcC K BadNode ∧ XfC K BadNode)
    (s_BadNode_LinkError : PySem.W.subIn K (.ref BadNode) (.ref LinkError) = some true)
    (s_BadNode_LogError : PySem.W.subIn K (.ref BadNode) (.ref LogError) = some false)
    (s_BadNode_BadOperation : PySem.W.subIn K (.ref BadNode) (.ref BadOperation) = some false)
    (s_BadNode_Illegal : PySem.W.subIn K (.ref BadNode) (.ref Illegal) = some false)
    (s_BadNode_BadSize : PySem.W.subIn K (.ref BadNode) (.ref BadSize) = some false)
    (s_BadNode_BadNode : PySem.W.subIn K (.ref BadNode) (.ref BadNode) = some true)
    (s_BadNode_BadGap : PySem.W.subIn K (.ref BadNode) (.ref BadGap) = some false)
    (s_BadNode_BadDump : PySem.W.subIn K (.ref BadNode) (.ref BadDump) = some false)
    (s_BadNode_NotRepairable : PySem.W.subIn K (.ref BadNode) (.ref NotRepairable) = some false)
    (x_BadGap : LkX.ExcTxt P K BadGap i_BadGap ["gap"])
    (e_BadGap : ExcC K BadGap ∧ XfC K BadGap)
    (s_BadGap_LinkError : PySem.W.subIn K (.ref BadGap) (.ref LinkError) = some true)
    (s_BadGap_LogError : PySem.W.subIn K (.ref BadGap) (.ref LogError) = some false)
    (s_BadGap_BadOperation : PySem.W.subIn K (.ref BadGap) (.ref BadOperation) = some false)
    (s_BadGap_Illegal : PySem.W.subIn K (.ref BadGap) (.ref Illegal) = some false)
    (s_BadGap_BadSize : PySem.W.subIn K (.ref BadGap) (.ref BadSize) = some false)
    (s_BadGap_BadNode : PySem.W.subIn K (.ref BadGap) (.ref BadNode) = some false)
    (s_BadGap_BadGap : PySem.W.subIn K (.ref BadGap) (.ref BadGap) = some true)
    (s_BadGap_BadDump : PySem.W.subIn K (.ref BadGap) (.ref BadDump) = some false)
    (s_BadGap_NotRepairable : PySem.W.subIn K (.ref BadGap) (.ref NotRepairable) = some false)
    (x_BadDump : LkX.ExcTxt P K BadDump i_BadDump ["part"])
    (e_BadDump : ExcC K BadDump ∧ XfC K BadDump)
    (s_BadDump_LinkError : PySem.W.subIn K (.ref BadDump) (.ref LinkError) = some true)
    (s_BadDump_LogError : PySem.W.subIn K (.ref BadDump) (.ref LogError) = some false)
    (s_BadDump_BadOperation : PySem.W.subIn K (.ref BadDump) (.ref BadOperation) = some false)
    (s_BadDump_Illegal : PySem.W.subIn K (.ref BadDump) (.ref Illegal) = some false)
    (s_BadDump_BadSize : PySem.W.subIn K (.ref BadDump) (.ref BadSize) = some false)
    (s_BadDump_BadNode : PySem.W.subIn K (.ref BadDump) (.ref BadNode) = some false)
    (s_BadDump_BadGap : PySem.W.subIn K (.ref BadDump) (.ref BadGap) = some false)
    (s_BadDump_BadDump : PySem.W.subIn K (.ref BadDump) (.ref BadDump) = some true)
    (s_BadDump_NotRepairable : PySem.W.subIn K (.ref BadDump) (.ref NotRepairable) = some false)
    (x_NotRepairable : LkX.ExcTxt P K NotRepairable i_NotRepairable ["gap"])
    (e_NotRepairable : ExcC K NotRepairable ∧ XfC K NotRepairable)
    (s_NotRepairable_LinkError : PySem.W.subIn K (.ref NotRepairable) (.ref LinkError) = some true)
    (s_NotRepairable_LogError : PySem.W.subIn K (.ref NotRepairable) (.ref LogError) = some false)
    (s_NotRepairable_BadOperation : PySem.W.subIn K (.ref NotRepairable) (.ref BadOperation) = some false)
    (s_NotRepairable_Illegal : PySem.W.subIn K (.ref NotRepairable) (.ref Illegal) = some false)
    (s_NotRepairable_BadSize : PySem.W.subIn K (.ref NotRepairable) (.ref BadSize) = some false)
    (s_NotRepairable_BadNode : PySem.W.subIn K (.ref NotRepairable) (.ref BadNode) = some false)
    (s_NotRepairable_BadGap : PySem.W.subIn K (.ref NotRepairable) (.ref BadGap) = some false)
    (s_NotRepairable_BadDump : PySem.W.subIn K (.ref NotRepairable) (.ref BadDump) = some false)
    (s_NotRepairable_NotRepairable : PySem.W.subIn K (.ref NotRepairable) (.ref NotRepairable) = some true)
    (a_check_size : PySem.W.nsIn K mainGlobals "check_size" = some (some (.ref f_check_size))) (l_check_size : K.lookup f_check_size = some ⟨oc_check_size, od_check_size, .func (PySem.W.fnOf "check_size" "check_size" (defArgs s_check_size) (defBody s_check_size) (defScope s_check_size) .none kV_check_size dc_check_size pm_check_size an_check_size cd_check_size ct_check_size), sl_check_size⟩) (c_check_size : PySem.W.codeIn K cd_check_size "check_size" = true) (k_check_size : PySem.W.keepIn K (.ref f_check_size) = true)
    (a_check_operation : PySem.W.nsIn K mainGlobals "check_operation" = some (some (.ref f_check_operation))) (l_check_operation : K.lookup f_check_operation = some ⟨oc_check_operation, od_check_operation, .func (PySem.W.fnOf "check_operation" "check_operation" (defArgs s_check_operation) (defBody s_check_operation) (defScope s_check_operation) .none kV_check_operation dc_check_operation pm_check_operation an_check_operation cd_check_operation ct_check_operation), sl_check_operation⟩) (c_check_operation : PySem.W.codeIn K cd_check_operation "check_operation" = true) (k_check_operation : PySem.W.keepIn K (.ref f_check_operation) = true)
    (a_is_number : PySem.W.nsIn K mainGlobals "is_number" = some (some (.ref f_is_number))) (l_is_number : K.lookup f_is_number = some ⟨oc_is_number, od_is_number, .func (PySem.W.fnOf "is_number" "is_number" (defArgs s_is_number) (defBody s_is_number) (defScope s_is_number) .none kV_is_number dc_is_number pm_is_number an_is_number cd_is_number ct_is_number), sl_is_number⟩) (c_is_number : PySem.W.codeIn K cd_is_number "is_number" = true) (k_is_number : PySem.W.keepIn K (.ref f_is_number) = true)
    (a_check_gap : PySem.W.nsIn K mainGlobals "check_gap" = some (some (.ref f_check_gap))) (l_check_gap : K.lookup f_check_gap = some ⟨oc_check_gap, od_check_gap, .func (PySem.W.fnOf "check_gap" "check_gap" (defArgs s_check_gap) (defBody s_check_gap) (defScope s_check_gap) .none kV_check_gap dc_check_gap pm_check_gap an_check_gap cd_check_gap ct_check_gap), sl_check_gap⟩) (c_check_gap : PySem.W.codeIn K cd_check_gap "check_gap" = true) (k_check_gap : PySem.W.keepIn K (.ref f_check_gap) = true)
    (a_left_holds : PySem.W.nsIn K mainGlobals "left_holds" = some (some (.ref f_left_holds))) (l_left_holds : K.lookup f_left_holds = some ⟨oc_left_holds, od_left_holds, .func (PySem.W.fnOf "left_holds" "left_holds" (defArgs s_left_holds) (defBody s_left_holds) (defScope s_left_holds) .none kV_left_holds dc_left_holds pm_left_holds an_left_holds cd_left_holds ct_left_holds), sl_left_holds⟩) (c_left_holds : PySem.W.codeIn K cd_left_holds "left_holds" = true) (k_left_holds : PySem.W.keepIn K (.ref f_left_holds) = true)
    (a_right_holds : PySem.W.nsIn K mainGlobals "right_holds" = some (some (.ref f_right_holds))) (l_right_holds : K.lookup f_right_holds = some ⟨oc_right_holds, od_right_holds, .func (PySem.W.fnOf "right_holds" "right_holds" (defArgs s_right_holds) (defBody s_right_holds) (defScope s_right_holds) .none kV_right_holds dc_right_holds pm_right_holds an_right_holds cd_right_holds ct_right_holds), sl_right_holds⟩) (c_right_holds : PySem.W.codeIn K cd_right_holds "right_holds" = true) (k_right_holds : PySem.W.keepIn K (.ref f_right_holds) = true)
    (a_gap_state : PySem.W.nsIn K mainGlobals "gap_state" = some (some (.ref f_gap_state))) (l_gap_state : K.lookup f_gap_state = some ⟨oc_gap_state, od_gap_state, .func (PySem.W.fnOf "gap_state" "gap_state" (defArgs s_gap_state) (defBody s_gap_state) (defScope s_gap_state) .none kV_gap_state dc_gap_state pm_gap_state an_gap_state cd_gap_state ct_gap_state), sl_gap_state⟩) (c_gap_state : PySem.W.codeIn K cd_gap_state "gap_state" = true) (k_gap_state : PySem.W.keepIn K (.ref f_gap_state) = true)
    (a_gap_states : PySem.W.nsIn K mainGlobals "gap_states" = some (some (.ref f_gap_states))) (l_gap_states : K.lookup f_gap_states = some ⟨oc_gap_states, od_gap_states, .func (PySem.W.fnOf "gap_states" "gap_states" (defArgs s_gap_states) (defBody s_gap_states) (defScope s_gap_states) .none kV_gap_states dc_gap_states pm_gap_states an_gap_states cd_gap_states ct_gap_states), sl_gap_states⟩) (c_gap_states : PySem.W.codeIn K cd_gap_states "gap_states" = true) (k_gap_states : PySem.W.keepIn K (.ref f_gap_states) = true)
    (a_lost_gaps : PySem.W.nsIn K mainGlobals "lost_gaps" = some (some (.ref f_lost_gaps))) (l_lost_gaps : K.lookup f_lost_gaps = some ⟨oc_lost_gaps, od_lost_gaps, .func (PySem.W.fnOf "lost_gaps" "lost_gaps" (defArgs s_lost_gaps) (defBody s_lost_gaps) (defScope s_lost_gaps) .none kV_lost_gaps dc_lost_gaps pm_lost_gaps an_lost_gaps cd_lost_gaps ct_lost_gaps), sl_lost_gaps⟩) (c_lost_gaps : PySem.W.codeIn K cd_lost_gaps "lost_gaps" = true) (k_lost_gaps : PySem.W.keepIn K (.ref f_lost_gaps) = true)
    (a_foreign_writes : PySem.W.nsIn K mainGlobals "foreign_writes" = some (some (.ref f_foreign_writes))) (l_foreign_writes : K.lookup f_foreign_writes = some ⟨oc_foreign_writes, od_foreign_writes, .func (PySem.W.fnOf "foreign_writes" "foreign_writes" (defArgs s_foreign_writes) (defBody s_foreign_writes) (defScope s_foreign_writes) .none kV_foreign_writes dc_foreign_writes pm_foreign_writes an_foreign_writes cd_foreign_writes ct_foreign_writes), sl_foreign_writes⟩) (c_foreign_writes : PySem.W.codeIn K cd_foreign_writes "foreign_writes" = true) (k_foreign_writes : PySem.W.keepIn K (.ref f_foreign_writes) = true)
    (a_check_repairable : PySem.W.nsIn K mainGlobals "check_repairable" = some (some (.ref f_check_repairable))) (l_check_repairable : K.lookup f_check_repairable = some ⟨oc_check_repairable, od_check_repairable, .func (PySem.W.fnOf "check_repairable" "check_repairable" (defArgs s_check_repairable) (defBody s_check_repairable) (defScope s_check_repairable) .none kV_check_repairable dc_check_repairable pm_check_repairable an_check_repairable cd_check_repairable ct_check_repairable), sl_check_repairable⟩) (c_check_repairable : PySem.W.codeIn K cd_check_repairable "check_repairable" = true) (k_check_repairable : PySem.W.keepIn K (.ref f_check_repairable) = true)
    (a_is_due : PySem.W.nsIn K mainGlobals "is_due" = some (some (.ref f_is_due))) (l_is_due : K.lookup f_is_due = some ⟨oc_is_due, od_is_due, .func (PySem.W.fnOf "is_due" "is_due" (defArgs s_is_due) (defBody s_is_due) (defScope s_is_due) .none kV_is_due dc_is_due pm_is_due an_is_due cd_is_due ct_is_due), sl_is_due⟩) (c_is_due : PySem.W.codeIn K cd_is_due "is_due" = true) (k_is_due : PySem.W.keepIn K (.ref f_is_due) = true)
    (a__share : PySem.W.nsIn K mainGlobals "_share" = some (some (.ref f__share))) (l__share : K.lookup f__share = some ⟨oc__share, od__share, .func (PySem.W.fnOf "_share" "_share" (defArgs s__share) (defBody s__share) (defScope s__share) .none kV__share dc__share pm__share an__share cd__share ct__share), sl__share⟩) (c__share : PySem.W.codeIn K cd__share "_share" = true) (k__share : PySem.W.keepIn K (.ref f__share) = true)
    (a_is_repairable : PySem.W.nsIn K mainGlobals "is_repairable" = some (some (.ref f_is_repairable))) (l_is_repairable : K.lookup f_is_repairable = some ⟨oc_is_repairable, od_is_repairable, .func (PySem.W.fnOf "is_repairable" "is_repairable" (defArgs s_is_repairable) (defBody s_is_repairable) (defScope s_is_repairable) .none kV_is_repairable dc_is_repairable pm_is_repairable an_is_repairable cd_is_repairable ct_is_repairable), sl_is_repairable⟩) (c_is_repairable : PySem.W.codeIn K cd_is_repairable "is_repairable" = true) (k_is_repairable : PySem.W.keepIn K (.ref f_is_repairable) = true)
    (a_due_nodes : PySem.W.nsIn K mainGlobals "due_nodes" = some (some (.ref f_due_nodes))) (l_due_nodes : K.lookup f_due_nodes = some ⟨oc_due_nodes, od_due_nodes, .func (PySem.W.fnOf "due_nodes" "due_nodes" (defArgs s_due_nodes) (defBody s_due_nodes) (defScope s_due_nodes) .none kV_due_nodes dc_due_nodes pm_due_nodes an_due_nodes cd_due_nodes ct_due_nodes), sl_due_nodes⟩) (c_due_nodes : PySem.W.codeIn K cd_due_nodes "due_nodes" = true) (k_due_nodes : PySem.W.keepIn K (.ref f_due_nodes) = true)
    (a_settled_debt : PySem.W.nsIn K mainGlobals "settled_debt" = some (some (.ref f_settled_debt))) (l_settled_debt : K.lookup f_settled_debt = some ⟨oc_settled_debt, od_settled_debt, .func (PySem.W.fnOf "settled_debt" "settled_debt" (defArgs s_settled_debt) (defBody s_settled_debt) (defScope s_settled_debt) .none kV_settled_debt dc_settled_debt pm_settled_debt an_settled_debt cd_settled_debt ct_settled_debt), sl_settled_debt⟩) (c_settled_debt : PySem.W.codeIn K cd_settled_debt "settled_debt" = true) (k_settled_debt : PySem.W.keepIn K (.ref f_settled_debt) = true)
    (a_debt_of : PySem.W.nsIn K mainGlobals "debt_of" = some (some (.ref f_debt_of))) (l_debt_of : K.lookup f_debt_of = some ⟨oc_debt_of, od_debt_of, .func (PySem.W.fnOf "debt_of" "debt_of" (defArgs s_debt_of) (defBody s_debt_of) (defScope s_debt_of) .none kV_debt_of dc_debt_of pm_debt_of an_debt_of cd_debt_of ct_debt_of), sl_debt_of⟩) (c_debt_of : PySem.W.codeIn K cd_debt_of "debt_of" = true) (k_debt_of : PySem.W.keepIn K (.ref f_debt_of) = true)
    (a__numbers : PySem.W.nsIn K mainGlobals "_numbers" = some (some (.ref f__numbers))) (l__numbers : K.lookup f__numbers = some ⟨oc__numbers, od__numbers, .func (PySem.W.fnOf "_numbers" "_numbers" (defArgs s__numbers) (defBody s__numbers) (defScope s__numbers) .none kV__numbers dc__numbers pm__numbers an__numbers cd__numbers ct__numbers), sl__numbers⟩) (c__numbers : PySem.W.codeIn K cd__numbers "_numbers" = true) (k__numbers : PySem.W.keepIn K (.ref f__numbers) = true)
    (a__read_rights : PySem.W.nsIn K mainGlobals "_read_rights" = some (some (.ref f__read_rights))) (l__read_rights : K.lookup f__read_rights = some ⟨oc__read_rights, od__read_rights, .func (PySem.W.fnOf "_read_rights" "_read_rights" (defArgs s__read_rights) (defBody s__read_rights) (defScope s__read_rights) .none kV__read_rights dc__read_rights pm__read_rights an__read_rights cd__read_rights ct__read_rights), sl__read_rights⟩) (c__read_rights : PySem.W.codeIn K cd__read_rights "_read_rights" = true) (k__read_rights : PySem.W.keepIn K (.ref f__read_rights) = true)
    (a__read_lefts : PySem.W.nsIn K mainGlobals "_read_lefts" = some (some (.ref f__read_lefts))) (l__read_lefts : K.lookup f__read_lefts = some ⟨oc__read_lefts, od__read_lefts, .func (PySem.W.fnOf "_read_lefts" "_read_lefts" (defArgs s__read_lefts) (defBody s__read_lefts) (defScope s__read_lefts) .none kV__read_lefts dc__read_lefts pm__read_lefts an__read_lefts cd__read_lefts ct__read_lefts), sl__read_lefts⟩) (c__read_lefts : PySem.W.codeIn K cd__read_lefts "_read_lefts" = true) (k__read_lefts : PySem.W.keepIn K (.ref f__read_lefts) = true)
    (a__read_outs : PySem.W.nsIn K mainGlobals "_read_outs" = some (some (.ref f__read_outs))) (l__read_outs : K.lookup f__read_outs = some ⟨oc__read_outs, od__read_outs, .func (PySem.W.fnOf "_read_outs" "_read_outs" (defArgs s__read_outs) (defBody s__read_outs) (defScope s__read_outs) .none kV__read_outs dc__read_outs pm__read_outs an__read_outs cd__read_outs ct__read_outs), sl__read_outs⟩) (c__read_outs : PySem.W.codeIn K cd__read_outs "_read_outs" = true) (k__read_outs : PySem.W.keepIn K (.ref f__read_outs) = true)
    (a_lowers : PySem.W.nsIn K mainGlobals "lowers" = some (some (.ref f_lowers))) (l_lowers : K.lookup f_lowers = some ⟨oc_lowers, od_lowers, .func (PySem.W.fnOf "lowers" "lowers" (defArgs s_lowers) (defBody s_lowers) (defScope s_lowers) .none kV_lowers dc_lowers pm_lowers an_lowers cd_lowers ct_lowers), sl_lowers⟩) (c_lowers : PySem.W.codeIn K cd_lowers "lowers" = true) (k_lowers : PySem.W.keepIn K (.ref f_lowers) = true)
    (a__first_lowering : PySem.W.nsIn K mainGlobals "_first_lowering" = some (some (.ref f__first_lowering))) (l__first_lowering : K.lookup f__first_lowering = some ⟨oc__first_lowering, od__first_lowering, .func (PySem.W.fnOf "_first_lowering" "_first_lowering" (defArgs s__first_lowering) (defBody s__first_lowering) (defScope s__first_lowering) .none kV__first_lowering dc__first_lowering pm__first_lowering an__first_lowering cd__first_lowering ct__first_lowering), sl__first_lowering⟩) (c__first_lowering : PySem.W.codeIn K cd__first_lowering "_first_lowering" = true) (k__first_lowering : PySem.W.keepIn K (.ref f__first_lowering) = true)
    (a_first_repair : PySem.W.nsIn K mainGlobals "first_repair" = some (some (.ref f_first_repair))) (l_first_repair : K.lookup f_first_repair = some ⟨oc_first_repair, od_first_repair, .func (PySem.W.fnOf "first_repair" "first_repair" (defArgs s_first_repair) (defBody s_first_repair) (defScope s_first_repair) .none kV_first_repair dc_first_repair pm_first_repair an_first_repair cd_first_repair ct_first_repair), sl_first_repair⟩) (c_first_repair : PySem.W.codeIn K cd_first_repair "first_repair" = true) (k_first_repair : PySem.W.keepIn K (.ref f_first_repair) = true)
    (a__law_bag : PySem.W.nsIn K mainGlobals "_law_bag" = some (some (.ref f__law_bag))) (l__law_bag : K.lookup f__law_bag = some ⟨oc__law_bag, od__law_bag, .func (PySem.W.fnOf "_law_bag" "_law_bag" (defArgs s__law_bag) (defBody s__law_bag) (defScope s__law_bag) .none kV__law_bag dc__law_bag pm__law_bag an__law_bag cd__law_bag ct__law_bag), sl__law_bag⟩) (c__law_bag : PySem.W.codeIn K cd__law_bag "_law_bag" = true) (k__law_bag : PySem.W.keepIn K (.ref f__law_bag) = true)
    (a__law_draw : PySem.W.nsIn K mainGlobals "_law_draw" = some (some (.ref f__law_draw))) (l__law_draw : K.lookup f__law_draw = some ⟨oc__law_draw, od__law_draw, .func (PySem.W.fnOf "_law_draw" "_law_draw" (defArgs s__law_draw) (defBody s__law_draw) (defScope s__law_draw) .none kV__law_draw dc__law_draw pm__law_draw an__law_draw cd__law_draw ct__law_draw), sl__law_draw⟩) (c__law_draw : PySem.W.codeIn K cd__law_draw "_law_draw" = true) (k__law_draw : PySem.W.keepIn K (.ref f__law_draw) = true)
    (a__law_size : PySem.W.nsIn K mainGlobals "_law_size" = some (some (.ref f__law_size))) (l__law_size : K.lookup f__law_size = some ⟨oc__law_size, od__law_size, .func (PySem.W.fnOf "_law_size" "_law_size" (defArgs s__law_size) (defBody s__law_size) (defScope s__law_size) .none kV__law_size dc__law_size pm__law_size an__law_size cd__law_size ct__law_size), sl__law_size⟩) (c__law_size : PySem.W.codeIn K cd__law_size "_law_size" = true) (k__law_size : PySem.W.keepIn K (.ref f__law_size) = true)
    (a__law_standing : PySem.W.nsIn K mainGlobals "_law_standing" = some (some (.ref f__law_standing))) (l__law_standing : K.lookup f__law_standing = some ⟨oc__law_standing, od__law_standing, .func (PySem.W.fnOf "_law_standing" "_law_standing" (defArgs s__law_standing) (defBody s__law_standing) (defScope s__law_standing) .none kV__law_standing dc__law_standing pm__law_standing an__law_standing cd__law_standing ct__law_standing), sl__law_standing⟩) (c__law_standing : PySem.W.codeIn K cd__law_standing "_law_standing" = true) (k__law_standing : PySem.W.keepIn K (.ref f__law_standing) = true)
    (a__law_dump : PySem.W.nsIn K mainGlobals "_law_dump" = some (some (.ref f__law_dump))) (l__law_dump : K.lookup f__law_dump = some ⟨oc__law_dump, od__law_dump, .func (PySem.W.fnOf "_law_dump" "_law_dump" (defArgs s__law_dump) (defBody s__law_dump) (defScope s__law_dump) .none kV__law_dump dc__law_dump pm__law_dump an__law_dump cd__law_dump ct__law_dump), sl__law_dump⟩) (c__law_dump : PySem.W.codeIn K cd__law_dump "_law_dump" = true) (k__law_dump : PySem.W.keepIn K (.ref f__law_dump) = true)
    (a__law_copy : PySem.W.nsIn K mainGlobals "_law_copy" = some (some (.ref f__law_copy))) (l__law_copy : K.lookup f__law_copy = some ⟨oc__law_copy, od__law_copy, .func (PySem.W.fnOf "_law_copy" "_law_copy" (defArgs s__law_copy) (defBody s__law_copy) (defScope s__law_copy) .none kV__law_copy dc__law_copy pm__law_copy an__law_copy cd__law_copy ct__law_copy), sl__law_copy⟩) (c__law_copy : PySem.W.codeIn K cd__law_copy "_law_copy" = true) (k__law_copy : PySem.W.keepIn K (.ref f__law_copy) = true)
    (a__law_step : PySem.W.nsIn K mainGlobals "_law_step" = some (some (.ref f__law_step))) (l__law_step : K.lookup f__law_step = some ⟨oc__law_step, od__law_step, .func (PySem.W.fnOf "_law_step" "_law_step" (defArgs s__law_step) (defBody s__law_step) (defScope s__law_step) .none kV__law_step dc__law_step pm__law_step an__law_step cd__law_step ct__law_step), sl__law_step⟩) (c__law_step : PySem.W.codeIn K cd__law_step "_law_step" = true) (k__law_step : PySem.W.keepIn K (.ref f__law_step) = true)
    (a__law_operation : PySem.W.nsIn K mainGlobals "_law_operation" = some (some (.ref f__law_operation))) (l__law_operation : K.lookup f__law_operation = some ⟨oc__law_operation, od__law_operation, .func (PySem.W.fnOf "_law_operation" "_law_operation" (defArgs s__law_operation) (defBody s__law_operation) (defScope s__law_operation) .none kV__law_operation dc__law_operation pm__law_operation an__law_operation cd__law_operation ct__law_operation), sl__law_operation⟩) (c__law_operation : PySem.W.codeIn K cd__law_operation "_law_operation" = true) (k__law_operation : PySem.W.keepIn K (.ref f__law_operation) = true)
    (a__law_is_whole : PySem.W.nsIn K mainGlobals "_law_is_whole" = some (some (.ref f__law_is_whole))) (l__law_is_whole : K.lookup f__law_is_whole = some ⟨oc__law_is_whole, od__law_is_whole, .func (PySem.W.fnOf "_law_is_whole" "_law_is_whole" (defArgs s__law_is_whole) (defBody s__law_is_whole) (defScope s__law_is_whole) .none kV__law_is_whole dc__law_is_whole pm__law_is_whole an__law_is_whole cd__law_is_whole ct__law_is_whole), sl__law_is_whole⟩) (c__law_is_whole : PySem.W.codeIn K cd__law_is_whole "_law_is_whole" = true) (k__law_is_whole : PySem.W.keepIn K (.ref f__law_is_whole) = true)
    (a__law_lost : PySem.W.nsIn K mainGlobals "_law_lost" = some (some (.ref f__law_lost))) (l__law_lost : K.lookup f__law_lost = some ⟨oc__law_lost, od__law_lost, .func (PySem.W.fnOf "_law_lost" "_law_lost" (defArgs s__law_lost) (defBody s__law_lost) (defScope s__law_lost) .none kV__law_lost dc__law_lost pm__law_lost an__law_lost cd__law_lost ct__law_lost), sl__law_lost⟩) (c__law_lost : PySem.W.codeIn K cd__law_lost "_law_lost" = true) (k__law_lost : PySem.W.keepIn K (.ref f__law_lost) = true)
    (a__law_is_due : PySem.W.nsIn K mainGlobals "_law_is_due" = some (some (.ref f__law_is_due))) (l__law_is_due : K.lookup f__law_is_due = some ⟨oc__law_is_due, od__law_is_due, .func (PySem.W.fnOf "_law_is_due" "_law_is_due" (defArgs s__law_is_due) (defBody s__law_is_due) (defScope s__law_is_due) .none kV__law_is_due dc__law_is_due pm__law_is_due an__law_is_due cd__law_is_due ct__law_is_due), sl__law_is_due⟩) (c__law_is_due : PySem.W.codeIn K cd__law_is_due "_law_is_due" = true) (k__law_is_due : PySem.W.keepIn K (.ref f__law_is_due) = true)
    (a__law_due : PySem.W.nsIn K mainGlobals "_law_due" = some (some (.ref f__law_due))) (l__law_due : K.lookup f__law_due = some ⟨oc__law_due, od__law_due, .func (PySem.W.fnOf "_law_due" "_law_due" (defArgs s__law_due) (defBody s__law_due) (defScope s__law_due) .none kV__law_due dc__law_due pm__law_due an__law_due cd__law_due ct__law_due), sl__law_due⟩) (c__law_due : PySem.W.codeIn K cd__law_due "_law_due" = true) (k__law_due : PySem.W.keepIn K (.ref f__law_due) = true)
    (a__law_owed : PySem.W.nsIn K mainGlobals "_law_owed" = some (some (.ref f__law_owed))) (l__law_owed : K.lookup f__law_owed = some ⟨oc__law_owed, od__law_owed, .func (PySem.W.fnOf "_law_owed" "_law_owed" (defArgs s__law_owed) (defBody s__law_owed) (defScope s__law_owed) .none kV__law_owed dc__law_owed pm__law_owed an__law_owed cd__law_owed ct__law_owed), sl__law_owed⟩) (c__law_owed : PySem.W.codeIn K cd__law_owed "_law_owed" = true) (k__law_owed : PySem.W.keepIn K (.ref f__law_owed) = true)
    (a__law_lowers : PySem.W.nsIn K mainGlobals "_law_lowers" = some (some (.ref f__law_lowers))) (l__law_lowers : K.lookup f__law_lowers = some ⟨oc__law_lowers, od__law_lowers, .func (PySem.W.fnOf "_law_lowers" "_law_lowers" (defArgs s__law_lowers) (defBody s__law_lowers) (defScope s__law_lowers) .none kV__law_lowers dc__law_lowers pm__law_lowers an__law_lowers cd__law_lowers ct__law_lowers), sl__law_lowers⟩) (c__law_lowers : PySem.W.codeIn K cd__law_lowers "_law_lowers" = true) (k__law_lowers : PySem.W.keepIn K (.ref f__law_lowers) = true)
    (a__law_number : PySem.W.nsIn K mainGlobals "_law_number" = some (some (.ref f__law_number))) (l__law_number : K.lookup f__law_number = some ⟨oc__law_number, od__law_number, .func (PySem.W.fnOf "_law_number" "_law_number" (defArgs s__law_number) (defBody s__law_number) (defScope s__law_number) .none kV__law_number dc__law_number pm__law_number an__law_number cd__law_number ct__law_number), sl__law_number⟩) (c__law_number : PySem.W.codeIn K cd__law_number "_law_number" = true) (k__law_number : PySem.W.keepIn K (.ref f__law_number) = true)
    (a__law_numbers : PySem.W.nsIn K mainGlobals "_law_numbers" = some (some (.ref f__law_numbers))) (l__law_numbers : K.lookup f__law_numbers = some ⟨oc__law_numbers, od__law_numbers, .func (PySem.W.fnOf "_law_numbers" "_law_numbers" (defArgs s__law_numbers) (defBody s__law_numbers) (defScope s__law_numbers) .none kV__law_numbers dc__law_numbers pm__law_numbers an__law_numbers cd__law_numbers ct__law_numbers), sl__law_numbers⟩) (c__law_numbers : PySem.W.codeIn K cd__law_numbers "_law_numbers" = true) (k__law_numbers : PySem.W.keepIn K (.ref f__law_numbers) = true)
    (a__law_is_first : PySem.W.nsIn K mainGlobals "_law_is_first" = some (some (.ref f__law_is_first))) (l__law_is_first : K.lookup f__law_is_first = some ⟨oc__law_is_first, od__law_is_first, .func (PySem.W.fnOf "_law_is_first" "_law_is_first" (defArgs s__law_is_first) (defBody s__law_is_first) (defScope s__law_is_first) .none kV__law_is_first dc__law_is_first pm__law_is_first an__law_is_first cd__law_is_first ct__law_is_first), sl__law_is_first⟩) (c__law_is_first : PySem.W.codeIn K cd__law_is_first "_law_is_first" = true) (k__law_is_first : PySem.W.keepIn K (.ref f__law_is_first) = true)
    (a__law_acts_fit : PySem.W.nsIn K mainGlobals "_law_acts_fit" = some (some (.ref f__law_acts_fit))) (l__law_acts_fit : K.lookup f__law_acts_fit = some ⟨oc__law_acts_fit, od__law_acts_fit, .func (PySem.W.fnOf "_law_acts_fit" "_law_acts_fit" (defArgs s__law_acts_fit) (defBody s__law_acts_fit) (defScope s__law_acts_fit) .none kV__law_acts_fit dc__law_acts_fit pm__law_acts_fit an__law_acts_fit cd__law_acts_fit ct__law_acts_fit), sl__law_acts_fit⟩) (c__law_acts_fit : PySem.W.codeIn K cd__law_acts_fit "_law_acts_fit" = true) (k__law_acts_fit : PySem.W.keepIn K (.ref f__law_acts_fit) = true)
    (a__law_asked : PySem.W.nsIn K mainGlobals "_law_asked" = some (some (.ref f__law_asked))) (l__law_asked : K.lookup f__law_asked = some ⟨oc__law_asked, od__law_asked, .func (PySem.W.fnOf "_law_asked" "_law_asked" (defArgs s__law_asked) (defBody s__law_asked) (defScope s__law_asked) .none kV__law_asked dc__law_asked pm__law_asked an__law_asked cd__law_asked ct__law_asked), sl__law_asked⟩) (c__law_asked : PySem.W.codeIn K cd__law_asked "_law_asked" = true) (k__law_asked : PySem.W.keepIn K (.ref f__law_asked) = true)
    (a__law_begun : PySem.W.nsIn K mainGlobals "_law_begun" = some (some (.ref f__law_begun))) (l__law_begun : K.lookup f__law_begun = some ⟨oc__law_begun, od__law_begun, .func (PySem.W.fnOf "_law_begun" "_law_begun" (defArgs s__law_begun) (defBody s__law_begun) (defScope s__law_begun) .none kV__law_begun dc__law_begun pm__law_begun an__law_begun cd__law_begun ct__law_begun), sl__law_begun⟩) (c__law_begun : PySem.W.codeIn K cd__law_begun "_law_begun" = true) (k__law_begun : PySem.W.keepIn K (.ref f__law_begun) = true)
    (a_law : PySem.W.nsIn K mainGlobals "law" = some (some (.ref f_law))) (l_law : K.lookup f_law = some ⟨oc_law, od_law, .func (PySem.W.fnOf "law" "law" (defArgs s_law) (defBody s_law) (defScope s_law) .none kV_law dc_law pm_law an_law cd_law ct_law), sl_law⟩) (c_law : PySem.W.codeIn K cd_law "law" = true) (k_law : PySem.W.keepIn K (.ref f_law) = true)
    (b_ValueError : PySem.W.nsIn K mainGlobals "ValueError" = some none)
    (b_abs : PySem.W.nsIn K mainGlobals "abs" = some none)
    (b_sum : PySem.W.nsIn K mainGlobals "sum" = some none)
    (b_enumerate : PySem.W.nsIn K mainGlobals "enumerate" = some none)
    (b_range : PySem.W.nsIn K mainGlobals "range" = some none)
    (b_list : PySem.W.nsIn K mainGlobals "list" = some none)
    (b_len : PySem.W.nsIn K mainGlobals "len" = some none)
    (b_int : PySem.W.nsIn K mainGlobals "int" = some none)
    (b_isinstance : PySem.W.nsIn K mainGlobals "isinstance" = some none)
    (b_str : PySem.W.nsIn K mainGlobals "str" = some none)
    (b_bool : PySem.W.nsIn K mainGlobals "bool" = some none)
    (b_super : PySem.W.nsIn K mainGlobals "super" = some none)
    (k_MOST_NODES : PySem.W.nsIn K mainGlobals "MOST_NODES" = some (some (.int 60 t_MOST_NODES)))
    (k_MOST_DIGITS : PySem.W.nsIn K mainGlobals "MOST_DIGITS" = some (some (.int 9 t_MOST_DIGITS)))
    (k_PARTS : PySem.W.nsIn K mainGlobals "PARTS" = some (some (.int 3 t_PARTS)))
    : ∃ fd : FuncData, (∀ (s : Shared) (v : Value), BindsTo s fd ⟨[v], []⟩ [("_law_script", v)]) ∧ ∀ base : Heap, K.In base → base.Ns mainGlobals mg → FnOk P w K mg base (L2N.CX P w) 12 fa fd ["_law_script"] (spL K) := by
  have e := hfa.symm.trans (PySem.W.mg_of X G a_law)
  cases e
  have mm_Links___init__ := fun_mk (st := s_Links___init__) l_Links___init__ c_Links___init__ k_Links___init__
  have mm_Links_built := fun_mk (st := s_Links_built) l_Links_built c_Links_built k_Links_built
  have mm_Links_read := fun_mk (st := s_Links_read) l_Links_read c_Links_read k_Links_read
  have mm_Links_left := fun_mk (st := s_Links_left) l_Links_left c_Links_left k_Links_left
  have mm_Links_right := fun_mk (st := s_Links_right) l_Links_right c_Links_right k_Links_right
  have mm_Links_is_out := fun_mk (st := s_Links_is_out) l_Links_is_out c_Links_is_out k_Links_is_out
  have mm_Links_operation_on := fun_mk (st := s_Links_operation_on) l_Links_operation_on c_Links_operation_on k_Links_operation_on
  have mm_Links_apply := fun_mk (st := s_Links_apply) l_Links_apply c_Links_apply k_Links_apply
  have mm_Links_apply_at := fun_mk (st := s_Links_apply_at) l_Links_apply_at c_Links_apply_at k_Links_apply_at
  have mm_Links_copy := fun_mk (st := s_Links_copy) l_Links_copy c_Links_copy k_Links_copy
  have mm_Links_dump := fun_mk (st := s_Links_dump) l_Links_dump c_Links_dump k_Links_dump
  have mm_Links__dump_parts := fun_mk (st := s_Links__dump_parts) l_Links__dump_parts c_Links__dump_parts k_Links__dump_parts
  have m_check_size := nm_mk (st := s_check_size) X G a_check_size l_check_size c_check_size k_check_size
  have m_check_operation := nm_mk (st := s_check_operation) X G a_check_operation l_check_operation c_check_operation k_check_operation
  have m_is_number := nm_mk (st := s_is_number) X G a_is_number l_is_number c_is_number k_is_number
  have m_check_gap := nm_mk (st := s_check_gap) X G a_check_gap l_check_gap c_check_gap k_check_gap
  have m_left_holds := nm_mk (st := s_left_holds) X G a_left_holds l_left_holds c_left_holds k_left_holds
  have m_right_holds := nm_mk (st := s_right_holds) X G a_right_holds l_right_holds c_right_holds k_right_holds
  have m_gap_state := nm_mk (st := s_gap_state) X G a_gap_state l_gap_state c_gap_state k_gap_state
  have m_gap_states := nm_mk (st := s_gap_states) X G a_gap_states l_gap_states c_gap_states k_gap_states
  have m_lost_gaps := nm_mk (st := s_lost_gaps) X G a_lost_gaps l_lost_gaps c_lost_gaps k_lost_gaps
  have m_foreign_writes := nm_mk (st := s_foreign_writes) X G a_foreign_writes l_foreign_writes c_foreign_writes k_foreign_writes
  have m_check_repairable := nm_mk (st := s_check_repairable) X G a_check_repairable l_check_repairable c_check_repairable k_check_repairable
  have m_is_due := nm_mk (st := s_is_due) X G a_is_due l_is_due c_is_due k_is_due
  have m__share := nm_mk (st := s__share) X G a__share l__share c__share k__share
  have m_is_repairable := nm_mk (st := s_is_repairable) X G a_is_repairable l_is_repairable c_is_repairable k_is_repairable
  have m_due_nodes := nm_mk (st := s_due_nodes) X G a_due_nodes l_due_nodes c_due_nodes k_due_nodes
  have m_settled_debt := nm_mk (st := s_settled_debt) X G a_settled_debt l_settled_debt c_settled_debt k_settled_debt
  have m_debt_of := nm_mk (st := s_debt_of) X G a_debt_of l_debt_of c_debt_of k_debt_of
  have m__numbers := nm_mk (st := s__numbers) X G a__numbers l__numbers c__numbers k__numbers
  have m__read_rights := nm_mk (st := s__read_rights) X G a__read_rights l__read_rights c__read_rights k__read_rights
  have m__read_lefts := nm_mk (st := s__read_lefts) X G a__read_lefts l__read_lefts c__read_lefts k__read_lefts
  have m__read_outs := nm_mk (st := s__read_outs) X G a__read_outs l__read_outs c__read_outs k__read_outs
  have m_lowers := nm_mk (st := s_lowers) X G a_lowers l_lowers c_lowers k_lowers
  have m__first_lowering := nm_mk (st := s__first_lowering) X G a__first_lowering l__first_lowering c__first_lowering k__first_lowering
  have m_first_repair := nm_mk (st := s_first_repair) X G a_first_repair l_first_repair c_first_repair k_first_repair
  have m__law_bag := nm_mk (st := s__law_bag) X G a__law_bag l__law_bag c__law_bag k__law_bag
  have m__law_draw := nm_mk (st := s__law_draw) X G a__law_draw l__law_draw c__law_draw k__law_draw
  have m__law_size := nm_mk (st := s__law_size) X G a__law_size l__law_size c__law_size k__law_size
  have m__law_standing := nm_mk (st := s__law_standing) X G a__law_standing l__law_standing c__law_standing k__law_standing
  have m__law_dump := nm_mk (st := s__law_dump) X G a__law_dump l__law_dump c__law_dump k__law_dump
  have m__law_copy := nm_mk (st := s__law_copy) X G a__law_copy l__law_copy c__law_copy k__law_copy
  have m__law_step := nm_mk (st := s__law_step) X G a__law_step l__law_step c__law_step k__law_step
  have m__law_operation := nm_mk (st := s__law_operation) X G a__law_operation l__law_operation c__law_operation k__law_operation
  have m__law_is_whole := nm_mk (st := s__law_is_whole) X G a__law_is_whole l__law_is_whole c__law_is_whole k__law_is_whole
  have m__law_lost := nm_mk (st := s__law_lost) X G a__law_lost l__law_lost c__law_lost k__law_lost
  have m__law_is_due := nm_mk (st := s__law_is_due) X G a__law_is_due l__law_is_due c__law_is_due k__law_is_due
  have m__law_due := nm_mk (st := s__law_due) X G a__law_due l__law_due c__law_due k__law_due
  have m__law_owed := nm_mk (st := s__law_owed) X G a__law_owed l__law_owed c__law_owed k__law_owed
  have m__law_lowers := nm_mk (st := s__law_lowers) X G a__law_lowers l__law_lowers c__law_lowers k__law_lowers
  have m__law_number := nm_mk (st := s__law_number) X G a__law_number l__law_number c__law_number k__law_number
  have m__law_numbers := nm_mk (st := s__law_numbers) X G a__law_numbers l__law_numbers c__law_numbers k__law_numbers
  have m__law_is_first := nm_mk (st := s__law_is_first) X G a__law_is_first l__law_is_first c__law_is_first k__law_is_first
  have m__law_acts_fit := nm_mk (st := s__law_acts_fit) X G a__law_acts_fit l__law_acts_fit c__law_acts_fit k__law_acts_fit
  have m__law_asked := nm_mk (st := s__law_asked) X G a__law_asked l__law_asked c__law_asked k__law_asked
  have m__law_begun := nm_mk (st := s__law_begun) X G a__law_begun l__law_begun c__law_begun k__law_begun
  have m_law := nm_mk (st := s_law) X G a_law l_law c_law k_law
  have T : Txt P K mg ⟨f_check_size, f_check_operation, f_is_number, f_check_gap, f_left_holds, f_right_holds, f_gap_state, f_gap_states, f_lost_gaps, f_foreign_writes, f_check_repairable, f_is_due, f__share, f_is_repairable, f_due_nodes, f_settled_debt, f_debt_of, f__numbers, f__read_rights, f__read_lefts, f__read_outs, f_lowers, f__first_lowering, f_first_repair, f__law_bag, f__law_draw, f__law_size, f__law_standing, f__law_dump, f__law_copy, f__law_step, f__law_operation, f__law_is_whole, f__law_lost, f__law_is_due, f__law_due, f__law_owed, f__law_lowers, f__law_number, f__law_numbers, f__law_is_first, f__law_acts_fit, f__law_asked, f__law_begun, fa, f_Links___init__, f_Links_built, f_Links_read, f_Links_left, f_Links_right, f_Links_is_out, f_Links_operation_on, f_Links_apply, f_Links_apply_at, f_Links_copy, f_Links_dump, f_Links__dump_parts, Links, LinkError, LogError, BadOperation, i_BadOperation, Illegal, i_Illegal, BadSize, i_BadSize, BadNode, i_BadNode, BadGap, i_BadGap, BadDump, i_BadDump, NotRepairable, i_NotRepairable⟩ :=
    { n_check_size := m_check_size.1,
      F_check_size := ⟨_, m_check_size.2, Fun.binds (ps := ["size"]) m_check_size.2 fun _ _ _ _ _ _ us hl => match us, hl with | [_], _ => rfl⟩,
      n_check_operation := m_check_operation.1,
      F_check_operation := ⟨_, m_check_operation.2, Fun.binds (ps := ["size", "operation", "index"]) m_check_operation.2 fun _ _ _ _ _ _ us hl => match us, hl with | [_, _, _], _ => rfl⟩,
      n_is_number := m_is_number.1,
      F_is_number := ⟨_, m_is_number.2, Fun.binds (ps := ["word"]) m_is_number.2 fun _ _ _ _ _ _ us hl => match us, hl with | [_], _ => rfl⟩,
      n_check_gap := m_check_gap.1,
      F_check_gap := ⟨_, m_check_gap.2, Fun.binds (ps := ["size", "gap"]) m_check_gap.2 fun _ _ _ _ _ _ us hl => match us, hl with | [_, _], _ => rfl⟩,
      n_left_holds := m_left_holds.1,
      F_left_holds := ⟨_, m_left_holds.2, Fun.binds (ps := ["links", "gap"]) m_left_holds.2 fun _ _ _ _ _ _ us hl => match us, hl with | [_, _], _ => rfl⟩,
      n_right_holds := m_right_holds.1,
      F_right_holds := ⟨_, m_right_holds.2, Fun.binds (ps := ["links", "gap"]) m_right_holds.2 fun _ _ _ _ _ _ us hl => match us, hl with | [_, _], _ => rfl⟩,
      n_gap_state := m_gap_state.1,
      F_gap_state := ⟨_, m_gap_state.2, Fun.binds (ps := ["links", "gap"]) m_gap_state.2 fun _ _ _ _ _ _ us hl => match us, hl with | [_, _], _ => rfl⟩,
      n_gap_states := m_gap_states.1,
      F_gap_states := ⟨_, m_gap_states.2, Fun.binds (ps := ["links"]) m_gap_states.2 fun _ _ _ _ _ _ us hl => match us, hl with | [_], _ => rfl⟩,
      n_lost_gaps := m_lost_gaps.1,
      F_lost_gaps := ⟨_, m_lost_gaps.2, Fun.binds (ps := ["links"]) m_lost_gaps.2 fun _ _ _ _ _ _ us hl => match us, hl with | [_], _ => rfl⟩,
      n_foreign_writes := m_foreign_writes.1,
      F_foreign_writes := ⟨_, m_foreign_writes.2, Fun.binds (ps := ["links", "operation"]) m_foreign_writes.2 fun _ _ _ _ _ _ us hl => match us, hl with | [_, _], _ => rfl⟩,
      n_check_repairable := m_check_repairable.1,
      F_check_repairable := ⟨_, m_check_repairable.2, Fun.binds (ps := ["links"]) m_check_repairable.2 fun _ _ _ _ _ _ us hl => match us, hl with | [_], _ => rfl⟩,
      n_is_due := m_is_due.1,
      F_is_due := ⟨_, m_is_due.2, Fun.binds (ps := ["links", "node"]) m_is_due.2 fun _ _ _ _ _ _ us hl => match us, hl with | [_, _], _ => rfl⟩,
      n__share := m__share.1,
      F__share := ⟨_, m__share.2, Fun.binds (ps := ["links", "node"]) m__share.2 fun _ _ _ _ _ _ us hl => match us, hl with | [_, _], _ => rfl⟩,
      n_is_repairable := m_is_repairable.1,
      F_is_repairable := ⟨_, m_is_repairable.2, Fun.binds (ps := ["links"]) m_is_repairable.2 fun _ _ _ _ _ _ us hl => match us, hl with | [_], _ => rfl⟩,
      n_due_nodes := m_due_nodes.1,
      F_due_nodes := ⟨_, m_due_nodes.2, Fun.binds (ps := ["links"]) m_due_nodes.2 fun _ _ _ _ _ _ us hl => match us, hl with | [_], _ => rfl⟩,
      n_settled_debt := m_settled_debt.1,
      F_settled_debt := ⟨_, m_settled_debt.2, Fun.binds (ps := ["links"]) m_settled_debt.2 fun _ _ _ _ _ _ us hl => match us, hl with | [_], _ => rfl⟩,
      n_debt_of := m_debt_of.1,
      F_debt_of := ⟨_, m_debt_of.2, Fun.binds (ps := ["links"]) m_debt_of.2 fun _ _ _ _ _ _ us hl => match us, hl with | [_], _ => rfl⟩,
      n__numbers := m__numbers.1,
      F__numbers := ⟨_, m__numbers.2, Fun.binds (ps := ["part"]) m__numbers.2 fun _ _ _ _ _ _ us hl => match us, hl with | [_], _ => rfl⟩,
      n__read_rights := m__read_rights.1,
      F__read_rights := ⟨_, m__read_rights.2, Fun.binds (ps := ["part"]) m__read_rights.2 fun _ _ _ _ _ _ us hl => match us, hl with | [_], _ => rfl⟩,
      n__read_lefts := m__read_lefts.1,
      F__read_lefts := ⟨_, m__read_lefts.2, Fun.binds (ps := ["part", "size"]) m__read_lefts.2 fun _ _ _ _ _ _ us hl => match us, hl with | [_, _], _ => rfl⟩,
      n__read_outs := m__read_outs.1,
      F__read_outs := ⟨_, m__read_outs.2, Fun.binds (ps := ["part", "size"]) m__read_outs.2 fun _ _ _ _ _ _ us hl => match us, hl with | [_, _], _ => rfl⟩,
      n_lowers := m_lowers.1,
      F_lowers := ⟨_, m_lowers.2, Fun.binds (ps := ["links", "node"]) m_lowers.2 fun _ _ _ _ _ _ us hl => match us, hl with | [_, _], _ => rfl⟩,
      n__first_lowering := m__first_lowering.1,
      F__first_lowering := ⟨_, m__first_lowering.2, Fun.binds (ps := ["links", "nodes"]) m__first_lowering.2 fun _ _ _ _ _ _ us hl => match us, hl with | [_, _], _ => rfl⟩,
      n_first_repair := m_first_repair.1,
      F_first_repair := ⟨_, m_first_repair.2, Fun.binds (ps := ["links"]) m_first_repair.2 fun _ _ _ _ _ _ us hl => match us, hl with | [_], _ => rfl⟩,
      n__law_bag := m__law_bag.1,
      F__law_bag := ⟨_, m__law_bag.2, Fun.binds (ps := ["_law_script"]) m__law_bag.2 fun _ _ _ _ _ _ us hl => match us, hl with | [_], _ => rfl⟩,
      n__law_draw := m__law_draw.1,
      F__law_draw := ⟨_, m__law_draw.2, Fun.binds (ps := ["_law_bag_here", "_law_many"]) m__law_draw.2 fun _ _ _ _ _ _ us hl => match us, hl with | [_, _], _ => rfl⟩,
      n__law_size := m__law_size.1,
      F__law_size := ⟨_, m__law_size.2, Fun.binds (ps := ["_law_bag_here"]) m__law_size.2 fun _ _ _ _ _ _ us hl => match us, hl with | [_], _ => rfl⟩,
      n__law_standing := m__law_standing.1,
      F__law_standing := ⟨_, m__law_standing.2, Fun.binds (ps := ["_law_bag_here", "_law_size_here", "_law_lossy"]) m__law_standing.2 fun _ _ _ _ _ _ us hl => match us, hl with | [_, _, _], _ => rfl⟩,
      n__law_dump := m__law_dump.1,
      F__law_dump := ⟨_, m__law_dump.2, Fun.binds (ps := ["_law_book"]) m__law_dump.2 fun _ _ _ _ _ _ us hl => match us, hl with | [_], _ => rfl⟩,
      n__law_copy := m__law_copy.1,
      F__law_copy := ⟨_, m__law_copy.2, Fun.binds (ps := ["_law_book"]) m__law_copy.2 fun _ _ _ _ _ _ us hl => match us, hl with | [_], _ => rfl⟩,
      n__law_step := m__law_step.1,
      F__law_step := ⟨_, m__law_step.2, Fun.binds (ps := ["_law_book", "_law_node"]) m__law_step.2 fun _ _ _ _ _ _ us hl => match us, hl with | [_, _], _ => rfl⟩,
      n__law_operation := m__law_operation.1,
      F__law_operation := ⟨_, m__law_operation.2, Fun.binds (ps := ["_law_book", "_law_node"]) m__law_operation.2 fun _ _ _ _ _ _ us hl => match us, hl with | [_, _], _ => rfl⟩,
      n__law_is_whole := m__law_is_whole.1,
      F__law_is_whole := ⟨_, m__law_is_whole.2, Fun.binds (ps := ["_law_book"]) m__law_is_whole.2 fun _ _ _ _ _ _ us hl => match us, hl with | [_], _ => rfl⟩,
      n__law_lost := m__law_lost.1,
      F__law_lost := ⟨_, m__law_lost.2, Fun.binds (ps := ["_law_book"]) m__law_lost.2 fun _ _ _ _ _ _ us hl => match us, hl with | [_], _ => rfl⟩,
      n__law_is_due := m__law_is_due.1,
      F__law_is_due := ⟨_, m__law_is_due.2, Fun.binds (ps := ["_law_book", "_law_node"]) m__law_is_due.2 fun _ _ _ _ _ _ us hl => match us, hl with | [_, _], _ => rfl⟩,
      n__law_due := m__law_due.1,
      F__law_due := ⟨_, m__law_due.2, Fun.binds (ps := ["_law_book"]) m__law_due.2 fun _ _ _ _ _ _ us hl => match us, hl with | [_], _ => rfl⟩,
      n__law_owed := m__law_owed.1,
      F__law_owed := ⟨_, m__law_owed.2, Fun.binds (ps := ["_law_book"]) m__law_owed.2 fun _ _ _ _ _ _ us hl => match us, hl with | [_], _ => rfl⟩,
      n__law_lowers := m__law_lowers.1,
      F__law_lowers := ⟨_, m__law_lowers.2, Fun.binds (ps := ["_law_book", "_law_node"]) m__law_lowers.2 fun _ _ _ _ _ _ us hl => match us, hl with | [_, _], _ => rfl⟩,
      n__law_number := m__law_number.1,
      F__law_number := ⟨_, m__law_number.2, Fun.binds (ps := ["_law_told"]) m__law_number.2 fun _ _ _ _ _ _ us hl => match us, hl with | [_], _ => rfl⟩,
      n__law_numbers := m__law_numbers.1,
      F__law_numbers := ⟨_, m__law_numbers.2, Fun.binds (ps := ["_law_told"]) m__law_numbers.2 fun _ _ _ _ _ _ us hl => match us, hl with | [_], _ => rfl⟩,
      n__law_is_first := m__law_is_first.1,
      F__law_is_first := ⟨_, m__law_is_first.2, Fun.binds (ps := ["_law_start", "_law_moves"]) m__law_is_first.2 fun _ _ _ _ _ _ us hl => match us, hl with | [_, _], _ => rfl⟩,
      n__law_acts_fit := m__law_acts_fit.1,
      F__law_acts_fit := ⟨_, m__law_acts_fit.2, Fun.binds (ps := ["_law_book", "_law_moves"]) m__law_acts_fit.2 fun _ _ _ _ _ _ us hl => match us, hl with | [_, _], _ => rfl⟩,
      n__law_asked := m__law_asked.1,
      F__law_asked := ⟨_, m__law_asked.2, Fun.binds (ps := ["_law_linked", "_law_book"]) m__law_asked.2 fun _ _ _ _ _ _ us hl => match us, hl with | [_, _], _ => rfl⟩,
      n__law_begun := m__law_begun.1,
      F__law_begun := ⟨_, m__law_begun.2, Fun.binds (ps := ["_law_bag_here", "_law_linked", "_law_book"]) m__law_begun.2 fun _ _ _ _ _ _ us hl => match us, hl with | [_, _, _], _ => rfl⟩,
      n_law := m_law.1,
      F_law := ⟨_, m_law.2, Fun.binds (ps := ["_law_script"]) m_law.2 fun _ _ _ _ _ _ us hl => match us, hl with | [_], _ => rfl⟩,
      c_Links := PySem.W.mg_of X G a_Links,
      cl_Links := cl_Links,
      rd_Links := rd_Links,
      mk_Links := ⟨mk1_Links, mk2_Links, mk3_Links, mk4_Links⟩,
      na_Links_size := na_Links_size,
      na_Links__lefts := na_Links__lefts,
      na_Links__rights := na_Links__rights,
      na_Links__flags := na_Links__flags,
      cv_Links_MOST := ⟨_, cv_Links_MOST, ⟨_, rfl⟩⟩,
      F_Links___init__ := ⟨_, mm_Links___init__, Fun.binds (ps := ["self", "size"]) mm_Links___init__ fun _ _ _ _ _ _ us hl => match us, hl with | [_, _], _ => rfl⟩,
      st_Links_built := ⟨_, CSta.mk' st1_Links_built st2_Links_built k_Links_built⟩,
      F_Links_built := ⟨_, mm_Links_built, Fun.binds (ps := ["size", "lefts", "rights", "flags"]) mm_Links_built fun _ _ _ _ _ _ us hl => match us, hl with | [_, _, _, _], _ => rfl⟩,
      st_Links_read := ⟨_, CSta.mk' st1_Links_read st2_Links_read k_Links_read⟩,
      F_Links_read := ⟨_, mm_Links_read, Fun.binds (ps := ["text"]) mm_Links_read fun _ _ _ _ _ _ us hl => match us, hl with | [_], _ => rfl⟩,
      me_Links_left := ⟨me1_Links_left, me2_Links_left, k_Links_left⟩,
      F_Links_left := ⟨_, mm_Links_left, Fun.binds (ps := ["self", "node"]) mm_Links_left fun _ _ _ _ _ _ us hl => match us, hl with | [_, _], _ => rfl⟩,
      me_Links_right := ⟨me1_Links_right, me2_Links_right, k_Links_right⟩,
      F_Links_right := ⟨_, mm_Links_right, Fun.binds (ps := ["self", "node"]) mm_Links_right fun _ _ _ _ _ _ us hl => match us, hl with | [_, _], _ => rfl⟩,
      me_Links_is_out := ⟨me1_Links_is_out, me2_Links_is_out, k_Links_is_out⟩,
      F_Links_is_out := ⟨_, mm_Links_is_out, Fun.binds (ps := ["self", "node"]) mm_Links_is_out fun _ _ _ _ _ _ us hl => match us, hl with | [_, _], _ => rfl⟩,
      me_Links_operation_on := ⟨me1_Links_operation_on, me2_Links_operation_on, k_Links_operation_on⟩,
      F_Links_operation_on := ⟨_, mm_Links_operation_on, Fun.binds (ps := ["self", "node"]) mm_Links_operation_on fun _ _ _ _ _ _ us hl => match us, hl with | [_, _], _ => rfl⟩,
      me_Links_apply := ⟨me1_Links_apply, me2_Links_apply, k_Links_apply⟩,
      F_Links_apply := ⟨_, mm_Links_apply, Fun.binds (ps := ["self", "operation"]) mm_Links_apply fun _ _ _ _ _ _ us hl => match us, hl with | [_, _], _ => rfl⟩,
      me_Links_apply_at := ⟨me1_Links_apply_at, me2_Links_apply_at, k_Links_apply_at⟩,
      F_Links_apply_at := ⟨_, mm_Links_apply_at, Fun.binds (ps := ["self", "operation", "index"]) mm_Links_apply_at fun _ _ _ _ _ _ us hl => match us, hl with | [_, _, _], _ => rfl⟩,
      me_Links_copy := ⟨me1_Links_copy, me2_Links_copy, k_Links_copy⟩,
      F_Links_copy := ⟨_, mm_Links_copy, Fun.binds (ps := ["self"]) mm_Links_copy fun _ _ _ _ _ _ us hl => match us, hl with | [_], _ => rfl⟩,
      me_Links_dump := ⟨me1_Links_dump, me2_Links_dump, k_Links_dump⟩,
      F_Links_dump := ⟨_, mm_Links_dump, Fun.binds (ps := ["self"]) mm_Links_dump fun _ _ _ _ _ _ us hl => match us, hl with | [_], _ => rfl⟩,
      me_Links__dump_parts := ⟨me1_Links__dump_parts, me2_Links__dump_parts, k_Links__dump_parts⟩,
      F_Links__dump_parts := ⟨_, mm_Links__dump_parts, Fun.binds (ps := ["self"]) mm_Links__dump_parts fun _ _ _ _ _ _ us hl => match us, hl with | [_], _ => rfl⟩,
      c_LinkError := PySem.W.mg_of X G a_LinkError,
      c_LogError := PySem.W.mg_of X G a_LogError,
      c_BadOperation := PySem.W.mg_of X G a_BadOperation,
      x_BadOperation := x_BadOperation,
      e_BadOperation := e_BadOperation,
      c_Illegal := PySem.W.mg_of X G a_Illegal,
      x_Illegal := x_Illegal,
      e_Illegal := e_Illegal,
      c_BadSize := PySem.W.mg_of X G a_BadSize,
      x_BadSize := x_BadSize,
      e_BadSize := e_BadSize,
      c_BadNode := PySem.W.mg_of X G a_BadNode,
      x_BadNode := x_BadNode,
      e_BadNode := e_BadNode,
      c_BadGap := PySem.W.mg_of X G a_BadGap,
      x_BadGap := x_BadGap,
      e_BadGap := e_BadGap,
      c_BadDump := PySem.W.mg_of X G a_BadDump,
      x_BadDump := x_BadDump,
      e_BadDump := e_BadDump,
      c_NotRepairable := PySem.W.mg_of X G a_NotRepairable,
      x_NotRepairable := x_NotRepairable,
      e_NotRepairable := e_NotRepairable,
      t_BadOperation_LinkError := kit_mk d_LinkError s_BadOperation_BadOperation s_BadOperation_LinkError,
      t_BadOperation_LogError := kit_mk d_LogError s_BadOperation_BadOperation s_BadOperation_LogError,
      t_BadOperation_BadOperation := kit_mk d_BadOperation s_BadOperation_BadOperation s_BadOperation_BadOperation,
      t_BadOperation_Illegal := kit_mk d_Illegal s_BadOperation_BadOperation s_BadOperation_Illegal,
      t_BadOperation_BadSize := kit_mk d_BadSize s_BadOperation_BadOperation s_BadOperation_BadSize,
      t_BadOperation_BadNode := kit_mk d_BadNode s_BadOperation_BadOperation s_BadOperation_BadNode,
      t_BadOperation_BadGap := kit_mk d_BadGap s_BadOperation_BadOperation s_BadOperation_BadGap,
      t_BadOperation_BadDump := kit_mk d_BadDump s_BadOperation_BadOperation s_BadOperation_BadDump,
      t_BadOperation_NotRepairable := kit_mk d_NotRepairable s_BadOperation_BadOperation s_BadOperation_NotRepairable,
      v_BadOperation := kit_val x_BadOperation.vE,
      t_Illegal_LinkError := kit_mk d_LinkError s_Illegal_Illegal s_Illegal_LinkError,
      t_Illegal_LogError := kit_mk d_LogError s_Illegal_Illegal s_Illegal_LogError,
      t_Illegal_BadOperation := kit_mk d_BadOperation s_Illegal_Illegal s_Illegal_BadOperation,
      t_Illegal_Illegal := kit_mk d_Illegal s_Illegal_Illegal s_Illegal_Illegal,
      t_Illegal_BadSize := kit_mk d_BadSize s_Illegal_Illegal s_Illegal_BadSize,
      t_Illegal_BadNode := kit_mk d_BadNode s_Illegal_Illegal s_Illegal_BadNode,
      t_Illegal_BadGap := kit_mk d_BadGap s_Illegal_Illegal s_Illegal_BadGap,
      t_Illegal_BadDump := kit_mk d_BadDump s_Illegal_Illegal s_Illegal_BadDump,
      t_Illegal_NotRepairable := kit_mk d_NotRepairable s_Illegal_Illegal s_Illegal_NotRepairable,
      v_Illegal := kit_val x_Illegal.vE,
      t_BadSize_LinkError := kit_mk d_LinkError s_BadSize_BadSize s_BadSize_LinkError,
      t_BadSize_LogError := kit_mk d_LogError s_BadSize_BadSize s_BadSize_LogError,
      t_BadSize_BadOperation := kit_mk d_BadOperation s_BadSize_BadSize s_BadSize_BadOperation,
      t_BadSize_Illegal := kit_mk d_Illegal s_BadSize_BadSize s_BadSize_Illegal,
      t_BadSize_BadSize := kit_mk d_BadSize s_BadSize_BadSize s_BadSize_BadSize,
      t_BadSize_BadNode := kit_mk d_BadNode s_BadSize_BadSize s_BadSize_BadNode,
      t_BadSize_BadGap := kit_mk d_BadGap s_BadSize_BadSize s_BadSize_BadGap,
      t_BadSize_BadDump := kit_mk d_BadDump s_BadSize_BadSize s_BadSize_BadDump,
      t_BadSize_NotRepairable := kit_mk d_NotRepairable s_BadSize_BadSize s_BadSize_NotRepairable,
      v_BadSize := kit_val x_BadSize.vE,
      t_BadNode_LinkError := kit_mk d_LinkError s_BadNode_BadNode s_BadNode_LinkError,
      t_BadNode_LogError := kit_mk d_LogError s_BadNode_BadNode s_BadNode_LogError,
      t_BadNode_BadOperation := kit_mk d_BadOperation s_BadNode_BadNode s_BadNode_BadOperation,
      t_BadNode_Illegal := kit_mk d_Illegal s_BadNode_BadNode s_BadNode_Illegal,
      t_BadNode_BadSize := kit_mk d_BadSize s_BadNode_BadNode s_BadNode_BadSize,
      t_BadNode_BadNode := kit_mk d_BadNode s_BadNode_BadNode s_BadNode_BadNode,
      t_BadNode_BadGap := kit_mk d_BadGap s_BadNode_BadNode s_BadNode_BadGap,
      t_BadNode_BadDump := kit_mk d_BadDump s_BadNode_BadNode s_BadNode_BadDump,
      t_BadNode_NotRepairable := kit_mk d_NotRepairable s_BadNode_BadNode s_BadNode_NotRepairable,
      v_BadNode := kit_val x_BadNode.vE,
      t_BadGap_LinkError := kit_mk d_LinkError s_BadGap_BadGap s_BadGap_LinkError,
      t_BadGap_LogError := kit_mk d_LogError s_BadGap_BadGap s_BadGap_LogError,
      t_BadGap_BadOperation := kit_mk d_BadOperation s_BadGap_BadGap s_BadGap_BadOperation,
      t_BadGap_Illegal := kit_mk d_Illegal s_BadGap_BadGap s_BadGap_Illegal,
      t_BadGap_BadSize := kit_mk d_BadSize s_BadGap_BadGap s_BadGap_BadSize,
      t_BadGap_BadNode := kit_mk d_BadNode s_BadGap_BadGap s_BadGap_BadNode,
      t_BadGap_BadGap := kit_mk d_BadGap s_BadGap_BadGap s_BadGap_BadGap,
      t_BadGap_BadDump := kit_mk d_BadDump s_BadGap_BadGap s_BadGap_BadDump,
      t_BadGap_NotRepairable := kit_mk d_NotRepairable s_BadGap_BadGap s_BadGap_NotRepairable,
      v_BadGap := kit_val x_BadGap.vE,
      t_BadDump_LinkError := kit_mk d_LinkError s_BadDump_BadDump s_BadDump_LinkError,
      t_BadDump_LogError := kit_mk d_LogError s_BadDump_BadDump s_BadDump_LogError,
      t_BadDump_BadOperation := kit_mk d_BadOperation s_BadDump_BadDump s_BadDump_BadOperation,
      t_BadDump_Illegal := kit_mk d_Illegal s_BadDump_BadDump s_BadDump_Illegal,
      t_BadDump_BadSize := kit_mk d_BadSize s_BadDump_BadDump s_BadDump_BadSize,
      t_BadDump_BadNode := kit_mk d_BadNode s_BadDump_BadDump s_BadDump_BadNode,
      t_BadDump_BadGap := kit_mk d_BadGap s_BadDump_BadDump s_BadDump_BadGap,
      t_BadDump_BadDump := kit_mk d_BadDump s_BadDump_BadDump s_BadDump_BadDump,
      t_BadDump_NotRepairable := kit_mk d_NotRepairable s_BadDump_BadDump s_BadDump_NotRepairable,
      v_BadDump := kit_val x_BadDump.vE,
      t_NotRepairable_LinkError := kit_mk d_LinkError s_NotRepairable_NotRepairable s_NotRepairable_LinkError,
      t_NotRepairable_LogError := kit_mk d_LogError s_NotRepairable_NotRepairable s_NotRepairable_LogError,
      t_NotRepairable_BadOperation := kit_mk d_BadOperation s_NotRepairable_NotRepairable s_NotRepairable_BadOperation,
      t_NotRepairable_Illegal := kit_mk d_Illegal s_NotRepairable_NotRepairable s_NotRepairable_Illegal,
      t_NotRepairable_BadSize := kit_mk d_BadSize s_NotRepairable_NotRepairable s_NotRepairable_BadSize,
      t_NotRepairable_BadNode := kit_mk d_BadNode s_NotRepairable_NotRepairable s_NotRepairable_BadNode,
      t_NotRepairable_BadGap := kit_mk d_BadGap s_NotRepairable_NotRepairable s_NotRepairable_BadGap,
      t_NotRepairable_BadDump := kit_mk d_BadDump s_NotRepairable_NotRepairable s_NotRepairable_BadDump,
      t_NotRepairable_NotRepairable := kit_mk d_NotRepairable s_NotRepairable_NotRepairable s_NotRepairable_NotRepairable,
      v_NotRepairable := kit_val x_NotRepairable.vE,
      b_ValueError := PySem.W.mg_none_of X G b_ValueError,
      b_abs := PySem.W.mg_none_of X G b_abs,
      b_sum := PySem.W.mg_none_of X G b_sum,
      b_enumerate := PySem.W.mg_none_of X G b_enumerate,
      b_range := PySem.W.mg_none_of X G b_range,
      b_list := PySem.W.mg_none_of X G b_list,
      b_len := PySem.W.mg_none_of X G b_len,
      b_int := PySem.W.mg_none_of X G b_int,
      b_isinstance := PySem.W.mg_none_of X G b_isinstance,
      b_str := PySem.W.mg_none_of X G b_str,
      b_bool := PySem.W.mg_none_of X G b_bool,
      b_super := PySem.W.mg_none_of X G b_super,
      k_MOST_NODES := ⟨_, PySem.W.mg_of X G k_MOST_NODES⟩,
      k_MOST_DIGITS := ⟨_, PySem.W.mg_of X G k_MOST_DIGITS⟩,
      k_PARTS := ⟨_, PySem.W.mg_of X G k_PARTS⟩ }
  refine ⟨PySem.W.fnOf "law" "law" (defArgs s_law) (defBody s_law) (defScope s_law) .none kV_law dc_law pm_law an_law cd_law ct_law, fun s v => .of_eq rfl, fun base _ _ => ?_⟩
  have G__law_bag := ok__law_bag (w := w) (base := base) T
  have G__law_draw := ok__law_draw (w := w) (base := base) T
  have G__law_size := ok__law_size (w := w) (base := base) T G__law_draw
  have G__law_standing := ok__law_standing (w := w) (base := base) T G__law_draw
  have G_is_number := ok_is_number (w := w) (base := base) T
  have G__numbers := ok__numbers (w := w) (base := base) T G_is_number
  have G__read_rights := ok__read_rights (w := w) (base := base) T G__numbers
  have G__read_lefts := ok__read_lefts (w := w) (base := base) T G__numbers
  have G__read_outs := ok__read_outs (w := w) (base := base) T G__numbers
  have G_check_size := ok_check_size (w := w) (base := base) T
  have G_Links___init__ := ok_Links___init__ (w := w) (base := base) T G_check_size
  have G_Links_built := ok_Links_built (w := w) (base := base) T G_Links___init__
  have G_Links_read := ok_Links_read (w := w) (base := base) T G__read_rights G__read_lefts G__read_outs G_Links_built
  have G__law_dump := ok__law_dump (w := w) (base := base) T
  have G__law_lost := ok__law_lost (w := w) (base := base) T
  have G_check_gap := ok_check_gap (w := w) (base := base) T
  have G_Links_right := ok_Links_right (w := w) (base := base) T
  have G_left_holds := ok_left_holds (w := w) (base := base) T G_Links_right
  have G_Links_left := ok_Links_left (w := w) (base := base) T
  have G_right_holds := ok_right_holds (w := w) (base := base) T G_Links_left
  have G_gap_state := ok_gap_state (w := w) (base := base) T G_check_gap G_left_holds G_right_holds
  have G_gap_states := ok_gap_states (w := w) (base := base) T G_gap_state
  have G_lost_gaps := ok_lost_gaps (w := w) (base := base) T G_gap_states
  have G_check_repairable := ok_check_repairable (w := w) (base := base) T G_lost_gaps
  have G_is_repairable := ok_is_repairable (w := w) (base := base) T G_lost_gaps
  have G_Links_is_out := ok_Links_is_out (w := w) (base := base) T
  have G__share := ok__share (w := w) (base := base) T G_Links_is_out
  have G_is_due := ok_is_due (w := w) (base := base) T G_Links_is_out G_gap_state
  have G_due_nodes := ok_due_nodes (w := w) (base := base) T G_is_due
  have G_settled_debt := ok_settled_debt (w := w) (base := base) T G_is_repairable G__share G_due_nodes
  have G_debt_of := ok_debt_of (w := w) (base := base) T G_check_repairable G_settled_debt
  have G_Links_copy := ok_Links_copy (w := w) (base := base) T G_Links_built
  have G_check_operation := ok_check_operation (w := w) (base := base) T
  have G_Links_operation_on := ok_Links_operation_on (w := w) (base := base) T
  have G_foreign_writes := ok_foreign_writes (w := w) (base := base) T G_check_operation G_Links_operation_on G_Links_left G_Links_right G_left_holds G_right_holds
  have G_lowers := ok_lowers (w := w) (base := base) T G_is_due G_foreign_writes G_Links_operation_on G_gap_state
  have G__first_lowering := ok__first_lowering (w := w) (base := base) T G_lowers G_Links_operation_on
  have G_Links_apply_at := ok_Links_apply_at (w := w) (base := base) T G_check_operation
  have G_Links_apply := ok_Links_apply (w := w) (base := base) T G_Links_apply_at
  have G_first_repair := ok_first_repair (w := w) (base := base) T G_debt_of G_due_nodes G_Links_copy G__first_lowering G_Links_apply
  have G__law_number := ok__law_number (w := w) (base := base) T
  have G__law_numbers := ok__law_numbers (w := w) (base := base) T G__law_number
  have G__law_copy := ok__law_copy (w := w) (base := base) T
  have G__law_is_due := ok__law_is_due (w := w) (base := base) T
  have G__law_due := ok__law_due (w := w) (base := base) T G__law_is_due
  have G__law_owed := ok__law_owed (w := w) (base := base) T G__law_due
  have G__law_operation := ok__law_operation (w := w) (base := base) T
  have G__law_lowers := ok__law_lowers (w := w) (base := base) T G__law_is_due
  have G__law_step := ok__law_step (w := w) (base := base) T
  have G__law_is_whole := ok__law_is_whole (w := w) (base := base) T
  have G__law_is_first := ok__law_is_first (w := w) (base := base) T G__law_copy G__law_owed G__law_operation G__law_lowers G__law_step G__law_lost G__law_is_whole
  have G__law_acts_fit := ok__law_acts_fit (w := w) (base := base) T G__law_is_due
  have G_Links__dump_parts := ok_Links__dump_parts (w := w) (base := base) T
  have G_Links_dump := ok_Links_dump (w := w) (base := base) T G_Links__dump_parts
  have H__law_number := hk__law_number (w := w) (base := base) T
  have H_Links__dump_parts := hk_Links__dump_parts (w := w) (base := base) T
  have H_Links_dump := hk_Links_dump (w := w) (base := base) T H_Links__dump_parts
  have H__law_dump := hk__law_dump (w := w) (base := base) T
  have G__law_asked := ok__law_asked (w := w) (base := base) T G__law_lost G_first_repair G__law_numbers G__law_is_first G__law_acts_fit G_Links_dump G__law_dump H__law_number H_Links_dump H__law_dump
  have G__law_begun := ok__law_begun (w := w) (base := base) T G_first_repair G__law_numbers G__law_is_first G__law_draw G_Links_apply G__law_step
  exact ok_law T m_law.2 G__law_bag G__law_size G__law_standing G__law_draw G_Links_read G__law_dump G__law_asked G__law_lost G__law_begun G_Links_apply G__law_operation G__law_step
end Lk
open PySem PySem.W PySem.Calls PyProof.Rows
set_option maxRecDepth 100000 in
set_option maxHeartbeats 0 in
theorem PySem.Challenge.cw_latelink_k17_whole_first_repair_holds : PySem.Challenge.rw_latelink_k17_whole_first_repair.Holds := by
  w_on; o_law; k_head; (case hw => w_witness2)
  k_fill
  refine L2.walk_of (l := PySem.Challenge.rw_latelink_k17_whole_first_repair) (n := 63) (k := 12) (x := "_law_script") (CX := fun w => L2N.CX PySem.Challenge.rw_latelink_k17_whole_first_repair.prog w) (sp := fun w => Lk.spL _) rfl (by decide) rfl ⟨rfl, by decide, by decide⟩ (fun w h Y => PySem.W.kIn_of Y) ?F (fun w H a ns hl hO hS => Lk.spL_ok hl hS) Lk.noCX
  case F =>
    intro w mg fa h KX G hmg
    refine' Lk.all_mk KX G hmg ?a_Links ?cl_Links ?rd_Links ?mk1_Links ?mk2_Links ?mk3_Links ?mk4_Links ?na_Links_size ?na_Links__lefts ?na_Links__rights ?na_Links__flags ?cv_Links_MOST ?l_Links___init__ ?c_Links___init__ ?k_Links___init__ ?st1_Links_built ?st2_Links_built ?l_Links_built ?c_Links_built ?k_Links_built ?st1_Links_read ?st2_Links_read ?l_Links_read ?c_Links_read ?k_Links_read ?me1_Links_left ?me2_Links_left ?l_Links_left ?c_Links_left ?k_Links_left ?me1_Links_right ?me2_Links_right ?l_Links_right ?c_Links_right ?k_Links_right ?me1_Links_is_out ?me2_Links_is_out ?l_Links_is_out ?c_Links_is_out ?k_Links_is_out ?me1_Links_operation_on ?me2_Links_operation_on ?l_Links_operation_on ?c_Links_operation_on ?k_Links_operation_on ?me1_Links_apply ?me2_Links_apply ?l_Links_apply ?c_Links_apply ?k_Links_apply ?me1_Links_apply_at ?me2_Links_apply_at ?l_Links_apply_at ?c_Links_apply_at ?k_Links_apply_at ?me1_Links_copy ?me2_Links_copy ?l_Links_copy ?c_Links_copy ?k_Links_copy ?me1_Links_dump ?me2_Links_dump ?l_Links_dump ?c_Links_dump ?k_Links_dump ?me1_Links__dump_parts ?me2_Links__dump_parts ?l_Links__dump_parts ?c_Links__dump_parts ?k_Links__dump_parts ?a_LinkError ?a_LogError ?a_BadOperation ?a_Illegal ?a_BadSize ?a_BadNode ?a_BadGap ?a_BadDump ?a_NotRepairable ?d_LinkError ?d_LogError ?d_BadOperation ?d_Illegal ?d_BadSize ?d_BadNode ?d_BadGap ?d_BadDump ?d_NotRepairable ?x_BadOperation ?e_BadOperation ?s_BadOperation_LinkError ?s_BadOperation_LogError ?s_BadOperation_BadOperation ?s_BadOperation_Illegal ?s_BadOperation_BadSize ?s_BadOperation_BadNode ?s_BadOperation_BadGap ?s_BadOperation_BadDump ?s_BadOperation_NotRepairable ?x_Illegal ?e_Illegal ?s_Illegal_LinkError ?s_Illegal_LogError ?s_Illegal_BadOperation ?s_Illegal_Illegal ?s_Illegal_BadSize ?s_Illegal_BadNode ?s_Illegal_BadGap ?s_Illegal_BadDump ?s_Illegal_NotRepairable ?x_BadSize ?e_BadSize ?s_BadSize_LinkError ?s_BadSize_LogError ?s_BadSize_BadOperation ?s_BadSize_Illegal ?s_BadSize_BadSize ?s_BadSize_BadNode ?s_BadSize_BadGap ?s_BadSize_BadDump ?s_BadSize_NotRepairable ?x_BadNode ?e_BadNode ?s_BadNode_LinkError ?s_BadNode_LogError ?s_BadNode_BadOperation ?s_BadNode_Illegal ?s_BadNode_BadSize ?s_BadNode_BadNode ?s_BadNode_BadGap ?s_BadNode_BadDump ?s_BadNode_NotRepairable ?x_BadGap ?e_BadGap ?s_BadGap_LinkError ?s_BadGap_LogError ?s_BadGap_BadOperation ?s_BadGap_Illegal ?s_BadGap_BadSize ?s_BadGap_BadNode ?s_BadGap_BadGap ?s_BadGap_BadDump ?s_BadGap_NotRepairable ?x_BadDump ?e_BadDump ?s_BadDump_LinkError ?s_BadDump_LogError ?s_BadDump_BadOperation ?s_BadDump_Illegal ?s_BadDump_BadSize ?s_BadDump_BadNode ?s_BadDump_BadGap ?s_BadDump_BadDump ?s_BadDump_NotRepairable ?x_NotRepairable ?e_NotRepairable ?s_NotRepairable_LinkError ?s_NotRepairable_LogError ?s_NotRepairable_BadOperation ?s_NotRepairable_Illegal ?s_NotRepairable_BadSize ?s_NotRepairable_BadNode ?s_NotRepairable_BadGap ?s_NotRepairable_BadDump ?s_NotRepairable_NotRepairable ?a_check_size ?l_check_size ?c_check_size ?k_check_size ?a_check_operation ?l_check_operation ?c_check_operation ?k_check_operation ?a_is_number ?l_is_number ?c_is_number ?k_is_number ?a_check_gap ?l_check_gap ?c_check_gap ?k_check_gap ?a_left_holds ?l_left_holds ?c_left_holds ?k_left_holds ?a_right_holds ?l_right_holds ?c_right_holds ?k_right_holds ?a_gap_state ?l_gap_state ?c_gap_state ?k_gap_state ?a_gap_states ?l_gap_states ?c_gap_states ?k_gap_states ?a_lost_gaps ?l_lost_gaps ?c_lost_gaps ?k_lost_gaps ?a_foreign_writes ?l_foreign_writes ?c_foreign_writes ?k_foreign_writes ?a_check_repairable ?l_check_repairable ?c_check_repairable ?k_check_repairable ?a_is_due ?l_is_due ?c_is_due ?k_is_due ?a__share ?l__share ?c__share ?k__share ?a_is_repairable ?l_is_repairable ?c_is_repairable ?k_is_repairable ?a_due_nodes ?l_due_nodes ?c_due_nodes ?k_due_nodes ?a_settled_debt ?l_settled_debt ?c_settled_debt ?k_settled_debt ?a_debt_of ?l_debt_of ?c_debt_of ?k_debt_of ?a__numbers ?l__numbers ?c__numbers ?k__numbers ?a__read_rights ?l__read_rights ?c__read_rights ?k__read_rights ?a__read_lefts ?l__read_lefts ?c__read_lefts ?k__read_lefts ?a__read_outs ?l__read_outs ?c__read_outs ?k__read_outs ?a_lowers ?l_lowers ?c_lowers ?k_lowers ?a__first_lowering ?l__first_lowering ?c__first_lowering ?k__first_lowering ?a_first_repair ?l_first_repair ?c_first_repair ?k_first_repair ?a__law_bag ?l__law_bag ?c__law_bag ?k__law_bag ?a__law_draw ?l__law_draw ?c__law_draw ?k__law_draw ?a__law_size ?l__law_size ?c__law_size ?k__law_size ?a__law_standing ?l__law_standing ?c__law_standing ?k__law_standing ?a__law_dump ?l__law_dump ?c__law_dump ?k__law_dump ?a__law_copy ?l__law_copy ?c__law_copy ?k__law_copy ?a__law_step ?l__law_step ?c__law_step ?k__law_step ?a__law_operation ?l__law_operation ?c__law_operation ?k__law_operation ?a__law_is_whole ?l__law_is_whole ?c__law_is_whole ?k__law_is_whole ?a__law_lost ?l__law_lost ?c__law_lost ?k__law_lost ?a__law_is_due ?l__law_is_due ?c__law_is_due ?k__law_is_due ?a__law_due ?l__law_due ?c__law_due ?k__law_due ?a__law_owed ?l__law_owed ?c__law_owed ?k__law_owed ?a__law_lowers ?l__law_lowers ?c__law_lowers ?k__law_lowers ?a__law_number ?l__law_number ?c__law_number ?k__law_number ?a__law_numbers ?l__law_numbers ?c__law_numbers ?k__law_numbers ?a__law_is_first ?l__law_is_first ?c__law_is_first ?k__law_is_first ?a__law_acts_fit ?l__law_acts_fit ?c__law_acts_fit ?k__law_acts_fit ?a__law_asked ?l__law_asked ?c__law_asked ?k__law_asked ?a__law_begun ?l__law_begun ?c__law_begun ?k__law_begun ?a_law ?l_law ?c_law ?k_law ?b_ValueError ?b_abs ?b_sum ?b_enumerate ?b_range ?b_list ?b_len ?b_int ?b_isinstance ?b_str ?b_bool ?b_super ?k_MOST_NODES ?k_MOST_DIGITS ?k_PARTS
    (case a_Links => k_is)
    (case cl_Links => refine ⟨?_, ?_, ?_, ?_⟩ <;> k_is)
    (case rd_Links => refine ⟨?_, ?_⟩ <;> k_is)
    (case mk1_Links => k_is)
    (case mk2_Links => k_is)
    (case mk3_Links => k_is)
    (case mk4_Links => k_is)
    (case na_Links_size => show PySem.W.findIn _ (.ref _) "size" = some none; k_is)
    (case na_Links__lefts => show PySem.W.findIn _ (.ref _) "_lefts" = some none; k_is)
    (case na_Links__rights => show PySem.W.findIn _ (.ref _) "_rights" = some none; k_is)
    (case na_Links__flags => show PySem.W.findIn _ (.ref _) "_flags" = some none; k_is)
    (case cv_Links_MOST => k_is)
    (case l_Links___init__ => k_is)
    (case c_Links___init__ => k_is)
    (case k_Links___init__ => k_is)
    (case st1_Links_built => k_is)
    (case st2_Links_built => k_is)
    (case l_Links_built => k_is)
    (case c_Links_built => k_is)
    (case k_Links_built => k_is)
    (case st1_Links_read => k_is)
    (case st2_Links_read => k_is)
    (case l_Links_read => k_is)
    (case c_Links_read => k_is)
    (case k_Links_read => k_is)
    (case me1_Links_left => k_is)
    (case me2_Links_left => k_is)
    (case l_Links_left => k_is)
    (case c_Links_left => k_is)
    (case k_Links_left => k_is)
    (case me1_Links_right => k_is)
    (case me2_Links_right => k_is)
    (case l_Links_right => k_is)
    (case c_Links_right => k_is)
    (case k_Links_right => k_is)
    (case me1_Links_is_out => k_is)
    (case me2_Links_is_out => k_is)
    (case l_Links_is_out => k_is)
    (case c_Links_is_out => k_is)
    (case k_Links_is_out => k_is)
    (case me1_Links_operation_on => k_is)
    (case me2_Links_operation_on => k_is)
    (case l_Links_operation_on => k_is)
    (case c_Links_operation_on => k_is)
    (case k_Links_operation_on => k_is)
    (case me1_Links_apply => k_is)
    (case me2_Links_apply => k_is)
    (case l_Links_apply => k_is)
    (case c_Links_apply => k_is)
    (case k_Links_apply => k_is)
    (case me1_Links_apply_at => k_is)
    (case me2_Links_apply_at => k_is)
    (case l_Links_apply_at => k_is)
    (case c_Links_apply_at => k_is)
    (case k_Links_apply_at => k_is)
    (case me1_Links_copy => k_is)
    (case me2_Links_copy => k_is)
    (case l_Links_copy => k_is)
    (case c_Links_copy => k_is)
    (case k_Links_copy => k_is)
    (case me1_Links_dump => k_is)
    (case me2_Links_dump => k_is)
    (case l_Links_dump => k_is)
    (case c_Links_dump => k_is)
    (case k_Links_dump => k_is)
    (case me1_Links__dump_parts => k_is)
    (case me2_Links__dump_parts => k_is)
    (case l_Links__dump_parts => k_is)
    (case c_Links__dump_parts => k_is)
    (case k_Links__dump_parts => k_is)
    (case a_LinkError => k_is)
    (case a_LogError => k_is)
    (case a_BadOperation => k_is)
    (case a_Illegal => k_is)
    (case a_BadSize => k_is)
    (case a_BadNode => k_is)
    (case a_BadGap => k_is)
    (case a_BadDump => k_is)
    (case a_NotRepairable => k_is)
    (case d_LinkError => refine ⟨?_, ?_, ?_⟩ <;> k_is)
    (case d_LogError => refine ⟨?_, ?_, ?_⟩ <;> k_is)
    (case d_BadOperation => refine ⟨?_, ?_, ?_⟩ <;> k_is)
    (case d_Illegal => refine ⟨?_, ?_, ?_⟩ <;> k_is)
    (case d_BadSize => refine ⟨?_, ?_, ?_⟩ <;> k_is)
    (case d_BadNode => refine ⟨?_, ?_, ?_⟩ <;> k_is)
    (case d_BadGap => refine ⟨?_, ?_, ?_⟩ <;> k_is)
    (case d_BadDump => refine ⟨?_, ?_, ?_⟩ <;> k_is)
    (case d_NotRepairable => refine ⟨?_, ?_, ?_⟩ <;> k_is)
    case x_BadOperation =>
      refine' LkX.exc_mk (st := Lk.s_BadOperation___init__) (qual := "BadOperation.__init__") ?p1 ?p2 ?p3 ?p4 ?p5 ?p6 ?p7 ?p8 ?p9 ?q1 ?q2 ?q3 ?q4 ?q5 ?q6 ?q7 ?q8 ?r1 ?r2 ⟨_, _, _, _, _, _, _, _, _, rfl, rfl, (.cons (.cons .nil))⟩ rfl rfl rfl rfl rfl (by decide +kernel) (by decide +kernel) rfl rfl rfl (fun us hl => match us, hl with | [_, _, _], _ => rfl) (by decide +kernel) (by decide +kernel) (by decide)
      (case p1 => k_is)
      (case p2 => k_is)
      (case p3 => k_is)
      (case p4 => k_is)
      (case p5 => k_is)
      (case p6 => k_is)
      (case p7 => k_is)
      (case p8 => k_is)
      (case p9 => k_is)
      (case q1 => k_is)
      (case q2 => k_is)
      (case q3 => k_is)
      (case q4 => k_is)
      (case q5 => k_is)
      (case q6 => kernel_rfl)
      (case q7 => decide +kernel)
      (case q8 => refine Lk.all_in ?_; refine ⟨?_, ?_⟩; (· k_is); refine ⟨?_, ?_⟩; (· k_is); exact trivial)
      (case r1 => rfl)
      (case r2 => kernel_rfl)
    (case e_BadOperation => refine Lk.exc_ef ?_ ?_ ?_ ?_ ?_ ?_ ?_ ?_ <;> k_is)
    (case s_BadOperation_LinkError => k_is)
    (case s_BadOperation_LogError => k_is)
    (case s_BadOperation_BadOperation => k_is)
    (case s_BadOperation_Illegal => k_is)
    (case s_BadOperation_BadSize => k_is)
    (case s_BadOperation_BadNode => k_is)
    (case s_BadOperation_BadGap => k_is)
    (case s_BadOperation_BadDump => k_is)
    (case s_BadOperation_NotRepairable => k_is)
    case x_Illegal =>
      refine' LkX.exc_mk (st := Lk.s_Illegal___init__) (qual := "Illegal.__init__") ?p1 ?p2 ?p3 ?p4 ?p5 ?p6 ?p7 ?p8 ?p9 ?q1 ?q2 ?q3 ?q4 ?q5 ?q6 ?q7 ?q8 ?r1 ?r2 ⟨_, _, _, _, _, _, _, _, _, rfl, rfl, (.cons (.cons .nil))⟩ rfl rfl rfl rfl rfl (by decide +kernel) (by decide +kernel) rfl rfl rfl (fun us hl => match us, hl with | [_, _, _], _ => rfl) (by decide +kernel) (by decide +kernel) (by decide)
      (case p1 => k_is)
      (case p2 => k_is)
      (case p3 => k_is)
      (case p4 => k_is)
      (case p5 => k_is)
      (case p6 => k_is)
      (case p7 => k_is)
      (case p8 => k_is)
      (case p9 => k_is)
      (case q1 => k_is)
      (case q2 => k_is)
      (case q3 => k_is)
      (case q4 => k_is)
      (case q5 => k_is)
      (case q6 => kernel_rfl)
      (case q7 => decide +kernel)
      (case q8 => refine Lk.all_in ?_; refine ⟨?_, ?_⟩; (· k_is); refine ⟨?_, ?_⟩; (· k_is); exact trivial)
      (case r1 => rfl)
      (case r2 => kernel_rfl)
    (case e_Illegal => refine Lk.exc_ef ?_ ?_ ?_ ?_ ?_ ?_ ?_ ?_ <;> k_is)
    (case s_Illegal_LinkError => k_is)
    (case s_Illegal_LogError => k_is)
    (case s_Illegal_BadOperation => k_is)
    (case s_Illegal_Illegal => k_is)
    (case s_Illegal_BadSize => k_is)
    (case s_Illegal_BadNode => k_is)
    (case s_Illegal_BadGap => k_is)
    (case s_Illegal_BadDump => k_is)
    (case s_Illegal_NotRepairable => k_is)
    case x_BadSize =>
      refine' LkX.exc_mk (st := Lk.s_BadSize___init__) (qual := "BadSize.__init__") ?p1 ?p2 ?p3 ?p4 ?p5 ?p6 ?p7 ?p8 ?p9 ?q1 ?q2 ?q3 ?q4 ?q5 ?q6 ?q7 ?q8 ?r1 ?r2 ⟨_, _, _, _, _, _, _, _, _, rfl, rfl, (.cons .nil)⟩ rfl rfl rfl rfl rfl (by decide +kernel) (by decide +kernel) rfl rfl rfl (fun us hl => match us, hl with | [_, _], _ => rfl) (by decide +kernel) (by decide +kernel) (by decide)
      (case p1 => k_is)
      (case p2 => k_is)
      (case p3 => k_is)
      (case p4 => k_is)
      (case p5 => k_is)
      (case p6 => k_is)
      (case p7 => k_is)
      (case p8 => k_is)
      (case p9 => k_is)
      (case q1 => k_is)
      (case q2 => k_is)
      (case q3 => k_is)
      (case q4 => k_is)
      (case q5 => k_is)
      (case q6 => kernel_rfl)
      (case q7 => decide +kernel)
      (case q8 => refine Lk.all_in ?_; refine ⟨?_, ?_⟩; (· k_is); exact trivial)
      (case r1 => rfl)
      (case r2 => kernel_rfl)
    (case e_BadSize => refine Lk.exc_ef ?_ ?_ ?_ ?_ ?_ ?_ ?_ ?_ <;> k_is)
    (case s_BadSize_LinkError => k_is)
    (case s_BadSize_LogError => k_is)
    (case s_BadSize_BadOperation => k_is)
    (case s_BadSize_Illegal => k_is)
    (case s_BadSize_BadSize => k_is)
    (case s_BadSize_BadNode => k_is)
    (case s_BadSize_BadGap => k_is)
    (case s_BadSize_BadDump => k_is)
    (case s_BadSize_NotRepairable => k_is)
    case x_BadNode =>
      refine' LkX.exc_mk (st := Lk.s_BadNode___init__) (qual := "BadNode.__init__") ?p1 ?p2 ?p3 ?p4 ?p5 ?p6 ?p7 ?p8 ?p9 ?q1 ?q2 ?q3 ?q4 ?q5 ?q6 ?q7 ?q8 ?r1 ?r2 ⟨_, _, _, _, _, _, _, _, _, rfl, rfl, (.cons .nil)⟩ rfl rfl rfl rfl rfl (by decide +kernel) (by decide +kernel) rfl rfl rfl (fun us hl => match us, hl with | [_, _], _ => rfl) (by decide +kernel) (by decide +kernel) (by decide)
      (case p1 => k_is)
      (case p2 => k_is)
      (case p3 => k_is)
      (case p4 => k_is)
      (case p5 => k_is)
      (case p6 => k_is)
      (case p7 => k_is)
      (case p8 => k_is)
      (case p9 => k_is)
      (case q1 => k_is)
      (case q2 => k_is)
      (case q3 => k_is)
      (case q4 => k_is)
      (case q5 => k_is)
      (case q6 => kernel_rfl)
      (case q7 => decide +kernel)
      (case q8 => refine Lk.all_in ?_; refine ⟨?_, ?_⟩; (· k_is); exact trivial)
      (case r1 => rfl)
      (case r2 => kernel_rfl)
    (case e_BadNode => refine Lk.exc_ef ?_ ?_ ?_ ?_ ?_ ?_ ?_ ?_ <;> k_is)
    (case s_BadNode_LinkError => k_is)
    (case s_BadNode_LogError => k_is)
    (case s_BadNode_BadOperation => k_is)
    (case s_BadNode_Illegal => k_is)
    (case s_BadNode_BadSize => k_is)
    (case s_BadNode_BadNode => k_is)
    (case s_BadNode_BadGap => k_is)
    (case s_BadNode_BadDump => k_is)
    (case s_BadNode_NotRepairable => k_is)
    case x_BadGap =>
      refine' LkX.exc_mk (st := Lk.s_BadGap___init__) (qual := "BadGap.__init__") ?p1 ?p2 ?p3 ?p4 ?p5 ?p6 ?p7 ?p8 ?p9 ?q1 ?q2 ?q3 ?q4 ?q5 ?q6 ?q7 ?q8 ?r1 ?r2 ⟨_, _, _, _, _, _, _, _, _, rfl, rfl, (.cons .nil)⟩ rfl rfl rfl rfl rfl (by decide +kernel) (by decide +kernel) rfl rfl rfl (fun us hl => match us, hl with | [_, _], _ => rfl) (by decide +kernel) (by decide +kernel) (by decide)
      (case p1 => k_is)
      (case p2 => k_is)
      (case p3 => k_is)
      (case p4 => k_is)
      (case p5 => k_is)
      (case p6 => k_is)
      (case p7 => k_is)
      (case p8 => k_is)
      (case p9 => k_is)
      (case q1 => k_is)
      (case q2 => k_is)
      (case q3 => k_is)
      (case q4 => k_is)
      (case q5 => k_is)
      (case q6 => kernel_rfl)
      (case q7 => decide +kernel)
      (case q8 => refine Lk.all_in ?_; refine ⟨?_, ?_⟩; (· k_is); exact trivial)
      (case r1 => rfl)
      (case r2 => kernel_rfl)
    (case e_BadGap => refine Lk.exc_ef ?_ ?_ ?_ ?_ ?_ ?_ ?_ ?_ <;> k_is)
    (case s_BadGap_LinkError => k_is)
    (case s_BadGap_LogError => k_is)
    (case s_BadGap_BadOperation => k_is)
    (case s_BadGap_Illegal => k_is)
    (case s_BadGap_BadSize => k_is)
    (case s_BadGap_BadNode => k_is)
    (case s_BadGap_BadGap => k_is)
    (case s_BadGap_BadDump => k_is)
    (case s_BadGap_NotRepairable => k_is)
    case x_BadDump =>
      refine' LkX.exc_mk (st := Lk.s_BadDump___init__) (qual := "BadDump.__init__") ?p1 ?p2 ?p3 ?p4 ?p5 ?p6 ?p7 ?p8 ?p9 ?q1 ?q2 ?q3 ?q4 ?q5 ?q6 ?q7 ?q8 ?r1 ?r2 ⟨_, _, _, _, _, _, _, _, _, rfl, rfl, (.cons .nil)⟩ rfl rfl rfl rfl rfl (by decide +kernel) (by decide +kernel) rfl rfl rfl (fun us hl => match us, hl with | [_, _], _ => rfl) (by decide +kernel) (by decide +kernel) (by decide)
      (case p1 => k_is)
      (case p2 => k_is)
      (case p3 => k_is)
      (case p4 => k_is)
      (case p5 => k_is)
      (case p6 => k_is)
      (case p7 => k_is)
      (case p8 => k_is)
      (case p9 => k_is)
      (case q1 => k_is)
      (case q2 => k_is)
      (case q3 => k_is)
      (case q4 => k_is)
      (case q5 => k_is)
      (case q6 => kernel_rfl)
      (case q7 => decide +kernel)
      (case q8 => refine Lk.all_in ?_; refine ⟨?_, ?_⟩; (· k_is); exact trivial)
      (case r1 => rfl)
      (case r2 => kernel_rfl)
    (case e_BadDump => refine Lk.exc_ef ?_ ?_ ?_ ?_ ?_ ?_ ?_ ?_ <;> k_is)
    (case s_BadDump_LinkError => k_is)
    (case s_BadDump_LogError => k_is)
    (case s_BadDump_BadOperation => k_is)
    (case s_BadDump_Illegal => k_is)
    (case s_BadDump_BadSize => k_is)
    (case s_BadDump_BadNode => k_is)
    (case s_BadDump_BadGap => k_is)
    (case s_BadDump_BadDump => k_is)
    (case s_BadDump_NotRepairable => k_is)
    case x_NotRepairable =>
      refine' LkX.exc_mk (st := Lk.s_NotRepairable___init__) (qual := "NotRepairable.__init__") ?p1 ?p2 ?p3 ?p4 ?p5 ?p6 ?p7 ?p8 ?p9 ?q1 ?q2 ?q3 ?q4 ?q5 ?q6 ?q7 ?q8 ?r1 ?r2 ⟨_, _, _, _, _, _, _, _, _, rfl, rfl, (.cons .nil)⟩ rfl rfl rfl rfl rfl (by decide +kernel) (by decide +kernel) rfl rfl rfl (fun us hl => match us, hl with | [_, _], _ => rfl) (by decide +kernel) (by decide +kernel) (by decide)
      (case p1 => k_is)
      (case p2 => k_is)
      (case p3 => k_is)
      (case p4 => k_is)
      (case p5 => k_is)
      (case p6 => k_is)
      (case p7 => k_is)
      (case p8 => k_is)
      (case p9 => k_is)
      (case q1 => k_is)
      (case q2 => k_is)
      (case q3 => k_is)
      (case q4 => k_is)
      (case q5 => k_is)
      (case q6 => kernel_rfl)
      (case q7 => decide +kernel)
      (case q8 => refine Lk.all_in ?_; refine ⟨?_, ?_⟩; (· k_is); exact trivial)
      (case r1 => rfl)
      (case r2 => kernel_rfl)
    (case e_NotRepairable => refine Lk.exc_ef ?_ ?_ ?_ ?_ ?_ ?_ ?_ ?_ <;> k_is)
    (case s_NotRepairable_LinkError => k_is)
    (case s_NotRepairable_LogError => k_is)
    (case s_NotRepairable_BadOperation => k_is)
    (case s_NotRepairable_Illegal => k_is)
    (case s_NotRepairable_BadSize => k_is)
    (case s_NotRepairable_BadNode => k_is)
    (case s_NotRepairable_BadGap => k_is)
    (case s_NotRepairable_BadDump => k_is)
    (case s_NotRepairable_NotRepairable => k_is)
    (case a_check_size => k_is)
    (case l_check_size => k_is)
    (case c_check_size => k_is)
    (case k_check_size => k_is)
    (case a_check_operation => k_is)
    (case l_check_operation => k_is)
    (case c_check_operation => k_is)
    (case k_check_operation => k_is)
    (case a_is_number => k_is)
    (case l_is_number => k_is)
    (case c_is_number => k_is)
    (case k_is_number => k_is)
    (case a_check_gap => k_is)
    (case l_check_gap => k_is)
    (case c_check_gap => k_is)
    (case k_check_gap => k_is)
    (case a_left_holds => k_is)
    (case l_left_holds => k_is)
    (case c_left_holds => k_is)
    (case k_left_holds => k_is)
    (case a_right_holds => k_is)
    (case l_right_holds => k_is)
    (case c_right_holds => k_is)
    (case k_right_holds => k_is)
    (case a_gap_state => k_is)
    (case l_gap_state => k_is)
    (case c_gap_state => k_is)
    (case k_gap_state => k_is)
    (case a_gap_states => k_is)
    (case l_gap_states => k_is)
    (case c_gap_states => k_is)
    (case k_gap_states => k_is)
    (case a_lost_gaps => k_is)
    (case l_lost_gaps => k_is)
    (case c_lost_gaps => k_is)
    (case k_lost_gaps => k_is)
    (case a_foreign_writes => k_is)
    (case l_foreign_writes => k_is)
    (case c_foreign_writes => k_is)
    (case k_foreign_writes => k_is)
    (case a_check_repairable => k_is)
    (case l_check_repairable => k_is)
    (case c_check_repairable => k_is)
    (case k_check_repairable => k_is)
    (case a_is_due => k_is)
    (case l_is_due => k_is)
    (case c_is_due => k_is)
    (case k_is_due => k_is)
    (case a__share => k_is)
    (case l__share => k_is)
    (case c__share => k_is)
    (case k__share => k_is)
    (case a_is_repairable => k_is)
    (case l_is_repairable => k_is)
    (case c_is_repairable => k_is)
    (case k_is_repairable => k_is)
    (case a_due_nodes => k_is)
    (case l_due_nodes => k_is)
    (case c_due_nodes => k_is)
    (case k_due_nodes => k_is)
    (case a_settled_debt => k_is)
    (case l_settled_debt => k_is)
    (case c_settled_debt => k_is)
    (case k_settled_debt => k_is)
    (case a_debt_of => k_is)
    (case l_debt_of => k_is)
    (case c_debt_of => k_is)
    (case k_debt_of => k_is)
    (case a__numbers => k_is)
    (case l__numbers => k_is)
    (case c__numbers => k_is)
    (case k__numbers => k_is)
    (case a__read_rights => k_is)
    (case l__read_rights => k_is)
    (case c__read_rights => k_is)
    (case k__read_rights => k_is)
    (case a__read_lefts => k_is)
    (case l__read_lefts => k_is)
    (case c__read_lefts => k_is)
    (case k__read_lefts => k_is)
    (case a__read_outs => k_is)
    (case l__read_outs => k_is)
    (case c__read_outs => k_is)
    (case k__read_outs => k_is)
    (case a_lowers => k_is)
    (case l_lowers => k_is)
    (case c_lowers => k_is)
    (case k_lowers => k_is)
    (case a__first_lowering => k_is)
    (case l__first_lowering => k_is)
    (case c__first_lowering => k_is)
    (case k__first_lowering => k_is)
    (case a_first_repair => k_is)
    (case l_first_repair => k_is)
    (case c_first_repair => k_is)
    (case k_first_repair => k_is)
    (case a__law_bag => k_is)
    (case l__law_bag => k_is)
    (case c__law_bag => k_is)
    (case k__law_bag => k_is)
    (case a__law_draw => k_is)
    (case l__law_draw => k_is)
    (case c__law_draw => k_is)
    (case k__law_draw => k_is)
    (case a__law_size => k_is)
    (case l__law_size => k_is)
    (case c__law_size => k_is)
    (case k__law_size => k_is)
    (case a__law_standing => k_is)
    (case l__law_standing => k_is)
    (case c__law_standing => k_is)
    (case k__law_standing => k_is)
    (case a__law_dump => k_is)
    (case l__law_dump => k_is)
    (case c__law_dump => k_is)
    (case k__law_dump => k_is)
    (case a__law_copy => k_is)
    (case l__law_copy => k_is)
    (case c__law_copy => k_is)
    (case k__law_copy => k_is)
    (case a__law_step => k_is)
    (case l__law_step => k_is)
    (case c__law_step => k_is)
    (case k__law_step => k_is)
    (case a__law_operation => k_is)
    (case l__law_operation => k_is)
    (case c__law_operation => k_is)
    (case k__law_operation => k_is)
    (case a__law_is_whole => k_is)
    (case l__law_is_whole => k_is)
    (case c__law_is_whole => k_is)
    (case k__law_is_whole => k_is)
    (case a__law_lost => k_is)
    (case l__law_lost => k_is)
    (case c__law_lost => k_is)
    (case k__law_lost => k_is)
    (case a__law_is_due => k_is)
    (case l__law_is_due => k_is)
    (case c__law_is_due => k_is)
    (case k__law_is_due => k_is)
    (case a__law_due => k_is)
    (case l__law_due => k_is)
    (case c__law_due => k_is)
    (case k__law_due => k_is)
    (case a__law_owed => k_is)
    (case l__law_owed => k_is)
    (case c__law_owed => k_is)
    (case k__law_owed => k_is)
    (case a__law_lowers => k_is)
    (case l__law_lowers => k_is)
    (case c__law_lowers => k_is)
    (case k__law_lowers => k_is)
    (case a__law_number => k_is)
    (case l__law_number => k_is)
    (case c__law_number => k_is)
    (case k__law_number => k_is)
    (case a__law_numbers => k_is)
    (case l__law_numbers => k_is)
    (case c__law_numbers => k_is)
    (case k__law_numbers => k_is)
    (case a__law_is_first => k_is)
    (case l__law_is_first => k_is)
    (case c__law_is_first => k_is)
    (case k__law_is_first => k_is)
    (case a__law_acts_fit => k_is)
    (case l__law_acts_fit => k_is)
    (case c__law_acts_fit => k_is)
    (case k__law_acts_fit => k_is)
    (case a__law_asked => k_is)
    (case l__law_asked => k_is)
    (case c__law_asked => k_is)
    (case k__law_asked => k_is)
    (case a__law_begun => k_is)
    (case l__law_begun => k_is)
    (case c__law_begun => k_is)
    (case k__law_begun => k_is)
    (case a_law => k_is)
    (case l_law => k_is)
    (case c_law => k_is)
    (case k_law => k_is)
    (case b_ValueError => k_is)
    (case b_abs => k_is)
    (case b_sum => k_is)
    (case b_enumerate => k_is)
    (case b_range => k_is)
    (case b_list => k_is)
    (case b_len => k_is)
    (case b_int => k_is)
    (case b_isinstance => k_is)
    (case b_str => k_is)
    (case b_bool => k_is)
    (case b_super => k_is)
    (case k_MOST_NODES => k_is)
    (case k_MOST_DIGITS => k_is)
    (case k_PARTS => k_is)
