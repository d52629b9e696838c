import PyProof.Rows.All
import Wide.All
import OpenK.AllK
import Wide.FinOn
import KE.KExcSuper
import HandS.ForMost
import HandS.Exc
import HandS.ExcInit
import HandS.ExcCtx
import HandS.HotCalls
import HandS.ExcInitHot
import HandS.ExcIs
import HandS.More
import HandS.IsInst
import HandS.ExcField
import HandS.CallSlots
import HandS.TryMany
import HandS.Text
import HandS.Zip
import KE.KExcIs
import HandS.ClsMeth
import HandS.StrMore
import HandS.Sort
import HandS.Conv
import HandS.Codes
import PySem.Challenge.RW_latelink_k10_whole_verdicts_of_logs
set_option Elab.async false
set_option linter.all false
set_option maxRecDepth 100000
set_option maxHeartbeats 4000000
/-! own exceptions whose __init__ is: super().__init__('text'); self.f = f, .. -/
namespace LkX
open PySem PySem.W PySem.Calls PyProof.Rows PySem.HandSPX

/-- the stores: self.f = f, for the names in turn -/
inductive Stores : List Str → List Stmt → Prop
  | nil : Stores [] []
  | cons {f : Str} {fs : List Str} {ss : List Stmt} {q1 q2 q3 q4 : Pos} : Stores fs ss → Stores (f :: fs) (.Assign [.Attribute (.Name "self" q1) f q2] (.Name f q3) q4 :: ss)
/-- the whole body -/
def InitBody (fs : List Str) (body : List Stmt) : Prop := ∃ (m : Str) (j : Nat) (p0 p1 p2 p3 p4 p5 : Pos) (ss : List Stmt),
  body = .Expr (.Call (.Attribute (.Call (.Name "super" p0) [] [] p1) "__init__" p2) [.Constant (.str m) j p3] [] p4) p5 :: ss ∧ (p2.endLine == p4.line) = true ∧ Stores fs ss

/-- what the written part says of the class x at C, its __init__ at fI, its fields' names fs -/
structure ExcTxt (prog : Program) (K : Frag) (C fI : Addr) (fs : List Str) : Prop where
  cls : ∃ nm q N bs bm sn sub ab col dd k0 k1 k2 k3 k5, K.lookup C = some (excClassObj nm q C N bs bm true sn sub ab col dd k0 k1 k2 k3 k5 "ValueError.__new__") ∧ refsVE bm = true
  sa : findIn K (.ref C) "__setattr__" = some (some (.builtin "object.__setattr__"))
  noN : ∀ f ∈ fs, findIn K (.ref C) f = some none
  iC : findIn K (.ref C) "__init__" = some (some (.ref fI))
  tI : typeIn K (.ref fI) = some (.type "function")
  kC : keepIn K (.ref C) = true
  exC : subIn K (.ref C) (.type "BaseException") = some true
  tyC : typeIn K (.ref C) = some (.type "type")
  vE : subIn K (.ref C) (.type "ValueError") = some true
  su : ks_superIn K C C "__init__" = some (some (.builtin "ValueError.__init__"))
  op : nsIn K cStatics "thirdparty.any" = some none
  gs : nsIn K mainGlobals "super" = some none
  fn : ∃ (qual : Str) (params : Arguments) (body : List Stmt) (scope : Scope) (oc : Value) (od : Option Addr) (doc pm : Value) (an : Option Addr) (cda : Addr) (ct : Value) (cc : Addr) (osl : Array (Option Value)) (ccl : Value) (cdd : Option Addr) (cvs : Array Value) (ccs : Array (Option Value)) (file : Str) (tf : Tok) (cl : Value) (cld : Option Addr) (csl : Array (Option Value)) (ar : Arg),
    K.lookup fI = some ⟨oc, od, .func (ksFn "__init__" qual params body scope .none .none doc pm an (.ref cda) ct cc), osl⟩ ∧ codeIn K (.ref cda) qual = true ∧
    K.lookup cda = some ⟨ccl, cdd, .fields cvs, ccs⟩ ∧ cvs[2]? = some (.str file tf) ∧ ((prog.main.file : Str) == file) = true ∧
    K.lookup cc = some ⟨cl, cld, .cell (some (.ref C)), csl⟩ ∧ InitBody fs body ∧ (params.posonlyargs ++ params.args).head? = some ar ∧ ar.arg = "self" ∧
    (prog.main.scope.names.lookup ("super" : Str)).isSome = false ∧
    scope.names.lookup ("super" : Str) = some .globalImplicit ∧ scope.names.lookup ("__class__" : Str) = some .free ∧ (∀ x ∈ scope.names, x.2 ≠ .cell) ∧
    (∀ f ∈ ("self" : Str) :: fs, scope.names.lookup f = some .local) ∧ scope.isCoroutine = false ∧ scope.isGenerator = false ∧ scope.kind = .function ∧
    (∀ us : List Value, us.length = (("self" : Str) :: fs).length → bindArgs (ksFn "__init__" qual params body scope .none .none doc pm an (.ref cda) ct cc) ⟨us, []⟩ = pure ((("self" : Str) :: fs).zip us))
  nd : (("self" : Str) :: fs).Nodup
  nb : ∀ f ∈ ("self" : Str) :: fs, (f == ("__debug__" : Str)) = false
  few : fs.length ≤ 100

theorem lookup_zip : ∀ {ns : List Str} {vs : List Value} {i : Nat} {f : Str} {v : Value}, ns.Nodup → ns[i]? = some f → vs[i]? = some v → (ns.zip vs).reverse.lookup f = some v := by
  intro ns
  induction ns with
  | nil => intro vs i f v _ h; simp at h
  | cons n ns ih =>
    intro vs i f v hd hf hv
    cases vs with
    | nil => simp at hv
    | cons u vs =>
      have hd' := List.nodup_cons.mp hd
      rw [List.zip_cons_cons, List.reverse_cons, List.lookup_append]
      cases i with
      | zero =>
        simp at hf hv
        subst hf; subst hv
        have hno : (ns.zip vs).reverse.lookup n = none := by
          cases hq : (ns.zip vs).reverse.lookup n with
          | none => rfl
          | some w =>
            have := PySem.mem_of_lookup hq
            rw [List.mem_reverse] at this
            exact absurd (List.of_mem_zip this).1 hd'.1
        rw [hno]
        simp [List.lookup]
      | succ i =>
        simp at hf hv
        rw [ih hd'.2 hf hv]
        rfl

theorem mcall_plain {o e : Expr} {name : Str} {apos pos : Pos} {env : Env} (h : (apos.endLine == pos.line) = true) (he : starEach [e] env = [(false, eval e env)] := by rfl) :
    eval (.Call (.Attribute o name apos) [e] [] pos) env = (do
      let ov ← attributeBase o name env (eval o env)
      standAt apos.atName
      let (f, first) ← holding [ov] (getMethod ov name (do return (← importBound o env).getD true))
      callWith pos f first (backTo pos (starEach [e] env)) []) := by
  rw [arm_eval_Call, he]
  unfold methodCall methodCallPos calleeOf
  rw [h]
  rfl
theorem quiet_of {env : Env} (h : env.scope.kind = .function) : interactive env = false := by simp [interactive, h]
theorem callWith1 {M : Model} {A : Around} {E : Value → Shared → Prop} {s : Shared} {i : String} {x u : Addr} {pos : Pos} {env : Env} {e : Expr} {rest : List Expr} {Q : Value → Shared → Prop}
    (h : wpAny M A (spliced (backTo pos (starEach (e :: rest) env))) (fun vs s₁ => KxsAt i u x s₁.heap ∧ wpAny M A (call (.ref u) vs) Q E s₁) E s)
    (he : starEach (e :: rest) env = (false, eval e env) :: starEach rest env := by rfl) (hplain : (backTo pos (starEach rest env)).any (·.1) = false := by rfl) :
    wpAny M A (callWith pos (.ref u) [] (backTo pos (starEach (e :: rest) env)) []) Q E s := by
  rw [he] at h ⊢
  refine kxs_callWith (i := i) (x := x) (by show (false || (backTo pos (starEach rest env)).any (·.1)) = false; rw [hplain]; rfl) ?_
  exact evalArgs_plain h
theorem spl1 {M : Model} {A : Around} {E : Value → Shared → Prop} {s : Shared} {pos : Pos} {env : Env} {e : Expr} {Q : List Value → Shared → Prop} (h : wpAny M A (eval e env) (fun v s₁ => Q [v] s₁) E s) (he : starEach [e] env = [(false, eval e env)] := by rfl) :
    wpAny M A (spliced (backTo pos (starEach [e] env))) Q E s := by
  rw [he]
  show wpAny _ _ (spliced ((false, eval e env) :: [])) _ _ s
  exact Calls.spliced_cons (wpAny_mono h (fun v s1 q => Calls.spliced_nil q) fun _ _ z => z)
/-- what __init__ leaves of the exception at x: its dict at dx holds m -/
structure InitEnd (h h' : Heap) (x C : Addr) (fs : List Str) (vs : List Value) : Prop where
  keep : ∀ b o, b ≠ x → h.get? b = some o → h'.get? b = some o
  fin : ∃ (t1 dx : Addr), h'.get? x = some ({ cls := .ref C, dict := some dx, data := .fields #[.ref t1, .none, .none, .none, .bool false, .none] } : Obj) ∧ h.objs.size ≤ dx ∧ dx ≠ x ∧
    ∃ mA, h'.Ns1 dx mA ∧ (∀ (i : Nat) (f : Str) (v : Value), fs[i]? = some f → vs[i]? = some v → mA f = some v) ∧ ∀ f, f ∉ fs → mA f = none

section
variable {prog : Program} {w : World} {A : Around} {E : Value → Shared → Prop} {R : Result → Shared → Prop} {K : Frag} {C fI : Addr} {fs : List Str}

theorem ldE {M : Model} {s : Shared} {env : Env} {m : Str → Option Value} {x : Str} {pos : Pos} {v : Value} {Q : Value → Shared → Prop} (hn : s.heap.Ns env.locals m) (hv : m x = some v) (h : Q v s)
    (hk : env.scope.kind = .function) (hl : env.kindOf x = some .local) (hd : (x == ("__debug__" : Str)) = false) : wpAny M A (eval (.Name x pos) env) Q E s := wpAny_Name (wpAny_loadName_local hk hl hn hv h) hd

/-- further stores: the dict is there -/
theorem stores_old (T : ExcTxt prog K C fI fs) {env : Env} {x t1 dx : Addr} (hk : env.scope.kind = .function) {N : Str → Option Value} (hself : N "self" = some (.ref x)) (hls : env.kindOf "self" = some .local) :
    ∀ (gs : List Str) (ss : List Stmt) (s : Shared) (mA : Str → Option Value) (nl : List Str) {Q : Flow → Shared → Prop}, Stores gs ss → (∀ f ∈ gs, f ∈ fs ∧ env.kindOf f = some .local ∧ ∃ v, N f = some v) → K.In s.heap → s.heap.Ns env.locals N → env.locals ≠ x → env.locals ≠ dx →
    s.heap.get? x = some ({ cls := .ref C, dict := some dx, data := .fields #[.ref t1, .none, .none, .none, .bool false, .none] } : Obj) → s.heap.Ns1 dx mA → Within mA nl → nl.length + gs.length ≤ 1000 → K.lookup dx = none → dx ≠ x → gs.Nodup →
    (∀ h' tk mB, (∀ b o, b ≠ dx → s.heap.get? b = some o → h'.get? b = some o) → h'.Ns1 dx mB → (∀ f ∈ gs, mB f = N f) → (∀ f, f ∉ gs → mB f = mA f) → Q .next { s with heap := h', toks := tk }) →
    wpAny (model prog w) A (execs ss env) Q E s := by
  obtain ⟨nm, q, N0, bs, bm, sn, sub, ab, col, dd, k0, k1, k2, k3, k5, hC, hbm⟩ := T.cls
  have hcl : clsIn K C = some { name := nm, bases := bs, mro := .ref C :: bm, ns := N0, qualname := q, hasDict := true, slotNames := sn, subclasses := sub, abstract := ab, collection := col, hasDel := false } := by unfold clsIn; rw [hC] <;> rfl
  intro gs
  induction gs with
  | nil =>
    intro ss s mA nl Q hS _ _ _ _ _ _ hn _ _ _ _ _ hq
    cases hS
    obtain ⟨hp, g, d, t, os⟩ := s
    exact wpAny_execs_nil (hq hp t mA (fun _ _ _ e => e) hn (fun _ h => absurd h List.not_mem_nil) fun _ _ => rfl)
  | cons f gs ih =>
    intro ss s mA nl Q hS hf hKI hns hLx hLd hx hn hw hz hKd hdx hnd hq
    cases hS with
    | cons hS' =>
      obtain ⟨hfm, hfl, v, hv⟩ := hf f List.mem_cons_self
      obtain ⟨oD, _, _, hoD, _, _⟩ := hn.count hw
      refine wpAny_execs_cons (plainObj_wpAny_Assign_Attribute ?_)
      refine ldE hns hv (ldE hns hself ?_ hk hls (T.nb _ List.mem_cons_self)) hk hfl (T.nb _ (List.mem_cons_of_mem _ hfm))
      obtain ⟨hp, g, d, t, os⟩ := s
      refine set_plain hKI (ox := { cls := .ref C, dict := some dx, data := .fields #[.ref t1, .none, .none, .none, .bool false, .none] }) (od := some oD) ⟨hx, rfl, rfl, hoD⟩ T.sa ?_
      refine PySem.OEX.osa_old hKI hx hn hw (by simp at hz; omega) hcl (show refsVE (.ref C :: bm) = true from hbm) rfl (T.noN f hfm) (fun h' tk' k hn' => ?_)
      have kK : K.In h' := fun a o e => k a o (fun z => by rw [z, hKd] at e; cases e) (hKI a o e)
      have hns' : h'.Ns env.locals N := by
        obtain ⟨o, es, ep, ho, hr⟩ := hns
        exact ⟨o, es, ep, k _ _ hLd ho, hr⟩
      refine ih _ ⟨h', g, d, tk', os⟩ (fun y => if y = f then some v else mA y) (f :: nl) hS' (fun f' hf' => hf f' (List.mem_cons_of_mem _ hf')) kK hns' hLx hLd (k _ _ hdx.symm hx) hn' (Within.cons f v hw) (by simp at hz ⊢; omega) hKd hdx (List.nodup_cons.mp hnd).2 ?_
      intro h2 tk2 mB k2 hnB hB hB'
      refine hq h2 tk2 mB (fun b o hb e => k2 b o hb (k b o hb e)) hnB (fun f' hf' => ?_) fun f' hf' => ?_
      · rcases List.mem_cons.mp hf' with e | hf'
        · subst e
          rw [hB' _ (List.nodup_cons.mp hnd).1, if_pos rfl, hv]
        · exact hB f' hf'
      · rw [hB' f' (fun z => hf' (List.mem_cons_of_mem _ z)), if_neg (fun z => hf' (by rw [z]; exact List.mem_cons_self))]

/-- super().__init__('m') called: the built-in's part -/
theorem call_init {u x t0 : Addr} {rest : List Value} {s : Shared} {Q : Value → Shared → Prop} (T : ExcTxt prog K C fI fs) (X : K.In s.heap) (hu : s.heap.get? u = some (kxs_mw "ValueError.__init__" x)) (hx : s.heap.get? x = some (excO C t0)) (hz : rest.length ≤ sizeLine)
    (hq : ∀ h' t1, (∀ b o, b ≠ x → s.heap.get? b = some o → h'.get? b = some o) → h'.get? x = some (excO C t1) → Q .none { s with heap := h' }) : wpAny (model prog w) A (call (.ref u) rest) Q E s := by
  obtain ⟨nm, q, N0, bs, bm, sn, sub, ab, col, dd, k0, k1, k2, k3, k5, hC, hbm⟩ := T.cls
  obtain ⟨hh, g, d, tk, os⟩ := s
  refine wpAny_call (codeAny_of_tree ?_)
  show wpAny _ A.in1 (callAny (.ref u) ⟨rest, []⟩) _ _ _
  simp only [callAny]
  refine wpAny_bind (wpAny_load hu ?_)
  simp only [kxs_mw, show (Value.type "method-wrapper" == Value.type "method" || Value.type "method-wrapper" == Value.type "builtin_function_or_method" || Value.type "method-wrapper" == Value.type "method-wrapper") = true by decide, if_true]
  refine KFB.if_so (by decide) ?_
  refine wpAny_bind (check_bound_init F.excBase_ValueError.toExcCallFacts (X _ _ hC) hx rfl ?_)
  refine wpAny_bind (wpAny_pure (wpAny_pure ?_))
  refine ⟨plainId_quiet F.excBase_ValueError.init.plain _, codeAny_builtin F.excBase_ValueError.initEntry ?_⟩
  exact exc_init_tree (cls := .ref C) (t0 := t0) (dv := none) (c2 := .none) (c3 := .none) (b4 := .bool false) hx hz fun h' k e' _ => hq h' _ k e'

theorem exc_init (T : ExcTxt prog K C fI fs) {x t0 : Addr} {vs : List Value} {s : Shared} {mg mb : Str → Option Value} (hfs : fs ≠ []) (hlen : vs.length = fs.length) (X : K.In s.heap) (hlim : s.heap.NoLimit) (hg : s.heap.Ns mainGlobals mg) (hb : s.heap.Ns builtinsNs mb) (hbs : mb "super" = some (.type "super")) (hx : s.heap.get? x = some (excO C t0)) (hnx : K.lookup x = none) (hroom : A.depth < recursionLimit)
    (hq : ∀ h' tk, InitEnd s.heap h' x C fs vs → R (.ok (.ret .none)) { s with heap := h', toks := tk }) :
    codeAny (model prog w) A (.call (.ref fI) ⟨.ref x :: vs, []⟩) R s := by
  obtain ⟨qual, params, body, scope, oc, od, doc, pm, an, cda, ct, cc, osl, ccl, cdd, cvs, ccs, file, tf, cl, cld, csl, ar, ho, hcd, hcda, hc2, hfile, hcell, ⟨m, j, p0, p1, p2, p3, p4, p5, ss, rfl, hpl, hS⟩, har, hself, htop, hsu, hcls, hnc, hloc, hco, hgen, hk, hbind⟩ := T.fn
  obtain ⟨nm, q, N0, bs, bm, sn, sub, ab, col, dd, k0, k1, k2, k3, k5, hC, hbm⟩ := T.cls
  have hcl : clsIn K C = some { name := nm, bases := bs, mro := .ref C :: bm, ns := N0, qualname := q, hasDict := true, slotNames := sn, subclasses := sub, abstract := ab, collection := col, hasDel := false } := by unfold clsIn; rw [hC] <;> rfl
  refine ks_codeAny_call_defAt (binds := (("self" : Str) :: fs).zip (.ref x :: vs)) hroom (X _ _ ho) rfl hlim (codeRec_of X hcd) rfl (BindsTo.of_eq (hbind _ (by simp [hlen]))) hnc (fun y hy => hloc _ (List.of_mem_zip (show (y.1, y.2) ∈ _ from hy)).1) (fun h₀ hns hk₀ => ?_) hco hgen hk
  have X0 : K.In h₀ := X.keeps hk₀
  have nself : (((("self" : Str) :: fs).zip (Value.ref x :: vs)).reverse).lookup ("self" : Str) = some (Value.ref x) := lookup_zip (i := 0) T.nd rfl rfl
  have nfld : ∀ (i : Nat) (f : Str) (v : Value), fs[i]? = some f → vs[i]? = some v → (((("self" : Str) :: fs).zip (Value.ref x :: vs)).reverse).lookup f = some v := fun i f v h1 h2 => lookup_zip (i := i + 1) T.nd (by simpa using h1) (by simpa using h2)
  have hx0 := hk₀ _ _ hx
  have hLs : s.heap.objs.size ≠ x := Nat.ne_of_gt (Heap.lt_size hx)
  have xC : x ≠ C := fun z => by rw [z] at hnx; rw [hC] at hnx; cases hnx
  -- super().__init__('m')
  refine ks_wpAt_execs_cons (ks_wpAt_Expr_any (ks_wpAt_MethodCall ?_ (mcall_plain hpl)) (quiet_of hk) rfl)
  refine ks_wpAt_super_base (env := callEnv (ksFn "__init__" qual params _ scope .none .none doc pm an (.ref cda) ct cc) s.heap.objs.size fI) hsu hcls (by decide) rfl (X0 _ _ ho) rfl har rfl (X0 _ _ hcda) rfl hc2 hfile htop ?_
  refine ks_loadName_global hk hsu (loadGlobal_builtin (env := callEnv (ksFn "__init__" qual params _ scope .none .none doc pm an (.ref cda) ct cc) s.heap.objs.size fI) (hg.keeps hk₀) (mg_none_of X hg T.gs) (hb.keeps hk₀) hbs ⟨rfl, ?_⟩)
  refine wpAny_loadName_free hk hcls rfl ⟨_, X0 _ _ hcell, rfl⟩ ?_
  refine wpAny_loadName_local hk (by rw [hself]; exact hloc _ List.mem_cons_self) hns (by rw [hself]; exact nself) ?_
  refine ks_wpAny_isType_cls (X0 _ _ hC) rfl ⟨rfl, ?_⟩
  refine ks_wpAny_call_super (X0 _ _ hC) rfl hx0 rfl (fun c e => by cases e) (looks_mroIn X0 (show mroIn K C (.ref C) = some true from ?_)) (fun h1 e1 k1' => ?_)
  · unfold mroIn
    rw [hcl, Option.bind_some]
    simp
  have X1 : K.In h1 := X0.keeps k1'
  have hx1 := k1' _ _ hx0
  unfold ks_superIn at *
  have hsu' := T.su
  unfold ks_superIn at hsu'
  rw [hcl] at hsu'
  have hI : Looks (model prog w) h1 (isInstance (.ref x) (.type "ValueError")) true := fun A Q E s' k q => wpAny_bind (wpAny_typeOf_ref (k _ _ hx1) (looks_subIn X1 T.vE A Q E s' k q))
  refine kxs_getMethod kxs_ValueError e1 (looks_opaque X1 T.op) (l₀ := .ref C :: bm) (fun A Q E s k q => wpAny_bind ((looks_clsIn X1 hcl) A _ E s k (wpAny_pure q))) rfl X1 hsu' hI xC (by decide) ?_
  have hu : (h1.push (kxs_mw "ValueError.__init__" x)).get? h1.objs.size = some (kxs_mw "ValueError.__init__" x) := Heap.get?_push_at rfl rfl
  have k2' : ∀ b o, h1.get? b = some o → (h1.push (kxs_mw "ValueError.__init__" x)).get? b = some o := fun b o e => Heap.get?_push_of_some _ e
  refine callWith1 (i := "ValueError.__init__") (x := x) ?_
  refine spl1 (Calls.Constant_str ⟨hu, ?_⟩)
  refine call_init T (X1.keeps k2') hu (k2' _ _ hx1) (by rw [sizeLine_eq]; simp) fun h2 t1 k3' hx2 => ?_
  have KX2 : K.In h2 := fun a o e => k3' a o (fun z => by rw [z, hnx] at e; cases e) (k2' _ _ (X1 a o e))
  refine wpAt_of_wpAny ?_
  -- the stores
  cases hS with
  | nil => exact absurd rfl hfs
  | @cons f gs ss' q1 q2 q3 q4 hS' =>
    have hLn : ∀ {b o}, s.heap.get? b = some o → b ≠ x → h2.get? b = some o := fun {b o} e hb => k3' b o hb (k2' _ _ (k1' _ _ (hk₀ _ _ e)))
    have hns2 : h2.Ns s.heap.objs.size (fun y => ((("self" : Str) :: (f :: gs)).zip (.ref x :: vs)).reverse.lookup y) := by
      obtain ⟨o, es, ep, hoo, hr⟩ := hns
      exact ⟨o, es, ep, k3' _ _ hLs (k2' _ _ (k1' _ _ hoo)), hr⟩
    obtain ⟨v, vs', rfl⟩ : ∃ v vs', vs = v :: vs' := by
      cases vs with
      | nil => simp at hlen
      | cons v vs' => exact ⟨v, vs', rfl⟩
    refine wpAny_execs_cons (plainObj_wpAny_Assign_Attribute ?_)
    refine ldE (env := callEnv (ksFn "__init__" qual params _ scope .none .none doc pm an (.ref cda) ct cc) s.heap.objs.size fI) hns2 (nfld 0 f v rfl rfl) (ldE (env := callEnv (ksFn "__init__" qual params _ scope .none .none doc pm an (.ref cda) ct cc) s.heap.objs.size fI) hns2 nself ?_ hk (hloc _ List.mem_cons_self) (T.nb _ List.mem_cons_self)) hk (hloc _ (by simp)) (T.nb _ (by simp))
    refine set_plain KX2 (ox := excO C t1) (od := none) ⟨hx2, rfl, rfl, trivial⟩ T.sa ?_
    refine exc_osa KX2 hx2 hcl (show refsVE (.ref C :: bm) = true from hbm) rfl (T.noN f (by simp)) (fun h3 tk3 dx k4' dn dne hx3 hn3 => ?_)
    have sz : ∀ {b o}, h2.get? b = some o → b ≠ dx := fun {b o} e => Nat.ne_of_lt (Nat.lt_of_lt_of_le (Heap.lt_size e) dn)
    have hKd : K.lookup dx = none := by
      cases e : K.lookup dx with
      | none => rfl
      | some o => exact absurd rfl (sz (KX2 _ _ e))
    have KX3 : K.In h3 := fun a o e => k4' a o (fun z => by rw [z, hnx] at e; cases e) (KX2 a o e)
    have hL2 : ∃ o, h2.get? s.heap.objs.size = some o := by
      obtain ⟨o, es, ep, hoo, hr⟩ := hns2
      exact ⟨o, hoo⟩
    obtain ⟨oL, hoL⟩ := hL2
    have hns3 : h3.Ns s.heap.objs.size (fun y => ((("self" : Str) :: (f :: gs)).zip (.ref x :: (v :: vs'))).reverse.lookup y) := by
      obtain ⟨o, es, ep, hoo, hr⟩ := hns2
      exact ⟨o, es, ep, k4' _ _ hLs hoo, hr⟩
    have nd2 := (List.nodup_cons.mp (List.nodup_cons.mp T.nd).2)
    refine stores_old T (env := callEnv (ksFn "__init__" qual params _ scope .none .none doc pm an (.ref cda) ct cc) s.heap.objs.size fI) hk nself (hloc _ List.mem_cons_self) gs ss' _ _ [f] hS' (fun f' hf' => ⟨List.mem_cons_of_mem _ hf', hloc _ (by simp [hf']), ?_⟩) KX3 hns3 hLs (sz hoL) hx3 hn3 (fun y hy => ?_) ?_ hKd dne nd2.2 ?_
    · obtain ⟨i, hi⟩ := List.getElem?_of_mem hf'
      have hi2 : i < vs'.length := by
        have := (List.getElem?_eq_some_iff.mp hi).1
        simp at hlen
        omega
      exact ⟨vs'[i], nfld (i + 1) f' _ (by simpa using hi) (by simp [hi2])⟩
    · by_cases hyf : y = f
      · simp [hyf]
      · simp [hyf] at hy
    · have := T.few
      simp at this ⊢
      omega
    · intro h4 tk4 mB k5' hnB hB hB'
      refine hq h4 tk4 ⟨fun b o hb e => k5' b o (fun z => ?_) (k4' b o hb (hLn e hb)), t1, dx, k5' _ _ dne.symm hx3, ?_, dne, mB, hnB, fun i f' u h1 h2' => ?_, fun f' hf' => ?_⟩
      · exact sz (hLn e hb) z
      · have l1 : s.heap.objs.size < h2.objs.size := Heap.lt_size hoL
        exact Nat.le_of_lt (Nat.lt_of_lt_of_le l1 dn)
      · cases i with
        | zero =>
          simp at h1 h2'
          subst h1; subst h2'
          rw [hB' _ nd2.1, if_pos rfl]
        | succ i =>
          have hm : f' ∈ gs := List.mem_of_getElem? (by simpa using h1)
          rw [hB f' hm]
          exact nfld (i + 1) f' u h1 h2'
      · rw [hB' f' (fun z => hf' (List.mem_cons_of_mem _ z)), if_neg (fun z => hf' (by rw [z]; exact List.mem_cons_self))]
/-- a made exception -/
structure OwnMade (h h' : Heap) (e C d : Addr) (fs : List Str) (vs : List Value) : Prop where
  keep : ∀ b o, h.get? b = some o → h'.get? b = some o
  new : h.objs.size ≤ e
  obj : ∃ t1 : Addr, h'.get? e = some ({ cls := .ref C, dict := some d, data := .fields #[.ref t1, .none, .none, .none, .bool false, .none] } : Obj)
  dbig : h.objs.size ≤ d
  dne : d ≠ e
  ns : ∃ mA, h'.Ns1 d mA ∧ (∀ (i : Nat) (f : Str) (v : Value), fs[i]? = some f → vs[i]? = some v → mA f = some v) ∧ ∀ f, f ∉ fs → mA f = none
theorem exc_made (T : ExcTxt prog K C fI fs) {vs : List Value} {s : Shared} {mg mb : Str → Option Value} (hfs : fs ≠ []) (hlen : vs.length = fs.length) (X : K.In s.heap) (hlim : s.heap.NoLimit) (hg : s.heap.Ns mainGlobals mg) (hb : s.heap.Ns builtinsNs mb) (hbs : mb "super" = some (.type "super")) (hroom : A.depth + 1 < recursionLimit)
    (hq : ∀ h' tk e d, OwnMade s.heap h' e C d fs vs → R (.ok (.ret (.ref e))) { s with heap := h', toks := tk }) :
    codeAny (model prog w) A (.call (.ref C) ⟨vs, []⟩) R s := by
  obtain ⟨nm, q, N, bs, bm, sn, sub, ab, col, dd, k0, k1, k2, k3, k5, hC, hbm⟩ := T.cls
  obtain ⟨hp, g, dr, tk, os⟩ := s
  have k : ∀ b o, hp.get? b = some o → ((hp.push (kdv_tup vs)).push (excO C hp.objs.size)).get? b = some o := fun b o e => Heap.get?_push_of_some _ (Heap.get?_push_of_some _ e)
  have hget : ((hp.push (kdv_tup vs)).push (excO C hp.objs.size)).get? (hp.objs.size + 1) = some (excO C hp.objs.size) := by heap_get
  have hnx : K.lookup (hp.objs.size + 1) = none := by
    cases e : K.lookup (hp.objs.size + 1) with
    | none => rfl
    | some o =>
      have z : hp.get? (hp.objs.size + 1) = some o := X _ _ e
      exact absurd (Nat.lt_of_succ_lt (Heap.lt_size z)) (Nat.lt_irrefl _)
  have hsz : vs.length ≤ sizeLine := by
    have := T.few
    rw [hlen, sizeLine_eq]
    omega
  refine call_own F.excBase_ValueError (fun X => refsVE_contains X bm hbm) (X _ _ hC) (looks_findIn X T.iC) (fun self => bind_fn X self T.tI) hsz ?_
  refine exc_init (s := ⟨(hp.push (kdv_tup vs)).push (excO C hp.objs.size), g, dr, tk, os⟩) T hfs hlen (X.keeps k) (hlim.keeps k) (hg.keeps k) (hb.keeps k) hbs hget hnx ?_ fun h' tk' IE => ?_
  · show A.depth + 1 < recursionLimit
    exact hroom
  · obtain ⟨k', t1, dx, hx, dn, dne, mA, hn, hv⟩ := IE
    have old : ∀ b o, hp.get? b = some o → h'.get? b = some o := fun b o e => k' b o (Nat.ne_of_lt (Nat.lt_succ_of_lt (Heap.lt_size e))) (k b o e)
    have z : hp.objs.size + 1 + 1 ≤ dx := by
      first
        | (simpa only [Heap.size_push] using dn)
        | exact dn
        | (have q := dn; rw [Heap.size_push, Heap.size_push] at q; exact q)
    exact ⟨rfl, hq h' tk' (hp.objs.size + 1) dx ⟨old, Nat.le_succ _, ⟨t1, hx⟩, Nat.le_trans (Nat.le_trans (Nat.le_succ _) (Nat.le_succ _)) z, dne, mA, hn, hv⟩⟩
end
end LkX

namespace Lk
open PySem PySem.Spec PyProof.Rows L2
abbrev St := L2.St

/-! ### raise C(e, ..) -/
/-- C(e, ..): the new exception's own dict at d -/
def tMkX (C : Addr) (fs : List Str) (ta : TA) : St → Hp → XK → Prop := fun σ H Q => ta σ H fun vs H1 => vs.length = fs.length ∧ ∀ d, H1 d = none → Q (.ref C) (some d) (upd H1 d (.xd (fs.zip vs)))
theorem zip_rel : ∀ {fs : List Str} {vs : List V} {us : List Value} {mA : Str → Option Value}, Vals vs us → vs.length = fs.length → (∀ (i : Nat) (f : Str) (v : Value), fs[i]? = some f → us[i]? = some v → mA f = some v) → (∀ f, f ∉ fs → mA f = none) → fs.Nodup → ∀ f, RelO ((fs.zip vs).lookup f) (mA f) := by
  intro fs
  induction fs with
  | nil =>
    intro vs us mA r hl h hn hd f
    rw [hn f List.not_mem_nil]
    exact True.intro
  | cons g fs ih =>
    intro vs us mA r hl h hn hd f
    cases r with
    | nil => simp at hl
    | @cons x u vs us rx rr =>
      rw [List.zip_cons_cons, lookup_put]
      by_cases hfg : f = g
      · rw [if_pos hfg, hfg, h 0 g u rfl rfl]
        exact rx
      · rw [if_neg hfg]
        have q := ih (mA := fun y => if y = g then none else mA y) rr (by simpa using hl) (fun i f' v' h1 h2 => by
            rw [if_neg (fun z => (List.nodup_cons.mp hd).1 (by rw [← z]; exact List.mem_of_getElem? h1))]
            exact h (i + 1) f' v' (by simpa using h1) (by simpa using h2)) (fun f' hf' => by
            by_cases z : f' = g
            · rw [if_pos z]
            · rw [if_neg z]
              exact hn f' (fun y => by rcases List.mem_cons.mp y with y | y; exact z y; exact hf' y)) (List.nodup_cons.mp hd).2 f
        rw [if_neg hfg] at q
        exact q
section
variable {X : Cx} {C fI : Addr} {fs : List Str} {e : Expr} {es : List Expr} {ta : TA} {x : Str} {p pos : Pos} {k : Nat}
theorem made_at {pins : List (Addr × Obj)} {σ : St} {H1 : Hp} {s1 : Shared} {us : List Value} {vs : List V} {Q : XK} {A : Around} {E : Value → Shared → Prop} (T : LkX.ExcTxt X.prog X.K C fI fs) (I1 : Inv X pins σ H1 s1) (r1 : Vals vs us) (hlen : vs.length = fs.length) (hfs : fs ≠ []) (hroom : A.depth + 1 < recursionLimit)
    (q : ∀ d, H1 d = none → Q (.ref C) (some d) (upd H1 d (.xd (fs.zip vs)))) : wpAny (model X.prog X.w) A (call (.ref C) us) (L2N.MkP X pins σ Q) E s1 := by
  obtain ⟨mb, hb1, hb2⟩ := I1.mod.blt
  have hul : us.length = fs.length := by rw [← r1.length]; exact hlen
  refine wpAny_call (LkX.exc_made T hfs hul I1.kIn I1.nolimit (I1.mod.glob.keeps I1.bk) (hb1.keeps I1.bk) ((hb2 "super" (by decide)).trans (by decide +kernel)) hroom fun h' tk' e d M => ?_)
  obtain ⟨hp, g, dr, tk, os⟩ := s1
  show L2N.MkP X pins σ Q (.ref e) ⟨h', g, dr, tk', os⟩
  obtain ⟨t1, hoe⟩ := M.obj
  obtain ⟨mA, hns, hv, hno⟩ := M.ns
  obtain ⟨G', g1, g2⟩ := restrict h' fun b => decide (b ≠ e)
  have gk : ∀ b, b ≠ e → G'.get? b = h'.get? b := fun b hb => g1 b (decide_eq_true hb)
  have ge : G'.get? e = none := g2 e (by simp)
  have old : ∀ b o, hp.get? b = some o → G'.get? b = some o := fun b o q => (gk b (Nat.ne_of_lt (Nat.lt_of_lt_of_le (Heap.lt_size q) M.new))).trans (M.keep b o q)
  have ob : ObjOk X.prog X.w (upd H1 d (.xd (fs.zip vs))) G' d (.xd (fs.zip vs)) :=
    ⟨_, hns.at (fun o q => (gk d M.dne).trans q), zip_rel r1 hlen hv hno (List.nodup_cons.mp T.nd).2⟩
  have J : Inv X pins σ (upd H1 d (.xd (fs.zip vs))) ⟨G', g, dr, tk', os⟩ := I1.laid (t' := tk') old M.dbig ob
  refine ⟨e, _, _, ⟨G', g, dr, tk', os⟩, _, .ref C, some d, rfl, J, fun b o q => ?_, ge, hoe, ⟨rfl, rfl, fun vs hvs => ?_⟩, rfl, rfl, ?_, rfl, I1.bare, raises_own T.exC T.tyC, q d (I1.hok.fresh M.dbig)⟩
  · by_cases hb : b = e
    · have q' : G'.get? b = some o := q
      rw [hb, ge] at q'; cases q'
    · exact (gk b hb).symm.trans q
  · cases hvs
    rfl
  · rw [upd_ne (Ne.symm M.dne)]
    exact I1.hok.fresh M.new
theorem pmk_own (T : LkX.ExcTxt X.prog X.K C fI fs) (hfs : fs ≠ []) (hr : Room k X.A) (hm : X.mg x = some (.ref C)) (ha : PA X (e :: es) ta) (hg : Gl X x) (hdb : (x == ("__debug__" : Str)) = false := by decide)
    (he : starEach (e :: es) X.env = (false, eval e X.env) :: starEach es X.env := by rfl) (hpl : (backTo pos (starEach es X.env)).any (·.1) = false := by rfl) :
    L2N.PMk X (.Call (.Name x p) (e :: es) [] pos) (tMkX C fs ta) := by
  intro pins s σ H Q I h
  refine wpAny_Call_Name_kw (ld_glob I hg hm ?_ hdb)
  refine PySem.W.callWith_K (h₀ := X.base) I.ok.mod.kin T.kC (thn (ha.run pos pins s σ H _ I h) fun us s1 ⟨vs, H1, I1, r1, hl, q1⟩ => ⟨I1.kIn, ?_⟩) he hpl
  exact made_at T I1 r1 hl hfs (by have := hr.dp; omega) q1
end
end Lk
namespace Lk
open PySem PySem.Spec PyProof.Rows L2

/-! ### defs as they are called -/
/-- the def at f keeps sp, by some code -/
def FnA (P : Program) (w : World) (K : PySem.W.Frag) (mg : Str → Option Value) (base : Heap) (k : Nat) (f : Addr) (ps : List Str) (sp : Sp) : Prop :=
  ∃ fd, FnOk P w K mg base (L2N.CX P w) k f fd ps sp ∧ Binds K fd ps []
def FnHA (P : Program) (w : World) (K : PySem.W.Frag) (mg : Str → Option Value) (base : Heap) (k : Nat) (f : Addr) (ps : List Str) (sp : Sp) : Prop :=
  ∃ fd, L2H.FnH P w K mg base (L2N.CX P w) k f fd ps sp ∧ Binds K fd ps []
/-- the module's name x holds the def at f -/
structure Nm (K : PySem.W.Frag) (mg : Str → Option Value) (x : Str) (f : Addr) : Prop where
  m : mg x = some (.ref f)
  k : PySem.W.keepIn K (.ref f) = true
theorem takes0 {X : Cx} : L2N.Takes X (fun _ _ _ _ => False) := fun _ _ x => by
  obtain ⟨_, _, _, _, _, _, _, _, _, _, _, _, _, _, _, _, z⟩ := x
  exact z.elim
section
variable {X : Cx} {k : Nat} {f : Addr} {ps : List Str} {sp : Sp} {W : WX} {x : Str} {p pos : Pos} {e : Expr} {es : List Expr} {t : TA}
theorem pe_callA (G : FnA X.prog X.w X.K X.mg X.base k f ps sp) (hr : Room k X.A) (hm : Nm X.K X.mg x f) (tk : L2N.Takes X W)
    (ha : PA X (e :: es) t) (hg : Gl X x := by rfl) (hdb : (x == ("__debug__" : Str)) = false := by decide) (he : starEach (e :: es) X.env = (false, eval e X.env) :: starEach es X.env := by rfl) (hpl : (backTo pos (starEach es X.env)).any (·.1) = false := by rfl) :
    PE X (.Call (.Name x p) (e :: es) [] pos) (tCallS sp (WE W) t) := by
  obtain ⟨fd, F, b⟩ := G
  exact pe_callS F hr hg hm.m hm.k b (fun σ => L2N.passAt tk σ) ha hdb he hpl
theorem pe_callHA (G : FnHA X.prog X.w X.K X.mg X.base k f ps sp) (hr : L2H.RoomH k X.A) (hc : L2H.HotC X) (hm : Nm X.K X.mg x f)
    (ha : PA X (e :: es) t) (hg : Gl X x := by rfl) (hdb : (x == ("__debug__" : Str)) = false := by decide) (he : starEach (e :: es) X.env = (false, eval e X.env) :: starEach es X.env := by rfl) (hpl : (backTo pos (starEach es X.env)).any (·.1) = false := by rfl) :
    PE X (.Call (.Name x p) (e :: es) [] pos) (tCallS sp (fun _ => E0) t) := by
  obtain ⟨fd, F, b⟩ := G
  exact L2H.pe_callH F hr hc hg hm.m hm.k b (fun σ => L2N.passAt takes0 σ) ha hdb he hpl
end
section
variable {P : Program} {w : World} {K : PySem.W.Frag} {mg : Str → Option Value} {base : Heap}
/-- a def's body, raising or not -/
theorem FnA.of {x qual : Str} {st : Stmt} {f : Addr} {fd : FuncData} {N ps : List Str} {k : Nat} {sp : Sp} (F : Fun K x qual st f fd) (S : FnScope N ps (defScope st)) (b : Binds K fd ps []) (len : ∀ vs H Q E, sp vs H Q E → vs.length = ps.length)
    (hbody : ∀ (cdv : Value) (A : Around) (outer : List Env) (s : Shared) (H : Hp) (vs : List V) (Q : VK) (E : XK), Room k (A.deeper (envOfC qual (defScope st) s.heap.objs.size f cdv)) → L2N.Takes (cxOf (L2N.CX P w) P w K mg base N qual (defScope st) f cdv A outer s H E) (fun cls d _ H' => E cls d H') →
      PassesOwn (model P w) (cxOf (L2N.CX P w) P w K mg base N qual (defScope st) f cdv A outer s H E).A (cxOf (L2N.CX P w) P w K mg base N qual (defScope st) f cdv A outer s H E).env (cxOf (L2N.CX P w) P w K mg base N qual (defScope st) f cdv A outer s H E).xe → sp vs H Q E →
      ∃ t, PSs (cxOf (L2N.CX P w) P w K mg base N qual (defScope st) f cdv A outer s H E) (defBody st) t ∧ t { nx := fun _ H' => Q .non H', rt := Q } (start N vs) H) : FnA P w K mg base (k + 1) f ps sp := by
  obtain ⟨oc, od, kV, doc, pm, an, cdv, ct, osl, rfl, lk, hcd⟩ := F.ex
  exact ⟨_, fn_of lk hcd S len fun A outer s H vs Q E hr hsp => hbody cdv A outer s H vs Q E hr (L2N.takes_of rfl rfl rfl rfl) (passes_of rfl) hsp, b⟩
theorem FnHA.of {x qual : Str} {st : Stmt} {f : Addr} {fd : FuncData} {N ps : List Str} {k : Nat} {sp : Sp} (F : Fun K x qual st f fd) (S : FnScope N ps (defScope st)) (b : Binds K fd ps []) (len : ∀ vs H Q E, sp vs H Q E → vs.length = ps.length)
    (hbody : ∀ (cdv : Value) (A : Around) (outer : List Env) (s : Shared) (H : Hp) (vs : List V) (Q : VK) (E : XK) (p : Addr × Obj), L2H.Hot1 A p → L2H.RoomH k (A.deeper (envOfC qual (defScope st) s.heap.objs.size f cdv)) → L2H.HotC (L2H.cxH (L2N.CX P w) P w K mg base N qual (defScope st) f cdv A outer s H E p) →
      PassesOwn (model P w) (L2H.cxH (L2N.CX P w) P w K mg base N qual (defScope st) f cdv A outer s H E p).A (L2H.cxH (L2N.CX P w) P w K mg base N qual (defScope st) f cdv A outer s H E p).env (L2H.cxH (L2N.CX P w) P w K mg base N qual (defScope st) f cdv A outer s H E p).xe → sp vs H Q E →
      ∃ t, PSs (L2H.cxH (L2N.CX P w) P w K mg base N qual (defScope st) f cdv A outer s H E p) (defBody st) t ∧ t { nx := fun _ H' => Q .non H', rt := Q } (start N vs) H) : FnHA P w K mg base (k + 1) f ps sp := by
  obtain ⟨oc, od, kV, doc, pm, an, cdv, ct, osl, rfl, lk, hcd⟩ := F.ex
  exact ⟨_, L2H.fn_ofH lk hcd S len fun A outer s H vs Q E p hot hr hsp => hbody cdv A outer s H vs Q E p hot hr ⟨p, ⟨hot.1, hot.2⟩, List.mem_cons_self⟩ (passes_of rfl) hsp, b⟩
end

/-! ### heaps -/
/-- all that was tracked stands, but for ms -/
def Kp (ms : List Addr) (H H' : Hp) : Prop := ∀ a o, H a = some o → a ∉ ms → H' a = some o
theorem Kp.refl {ms : List Addr} {H : Hp} : Kp ms H H := fun _ _ h _ => h
theorem Kp.at {ms : List Addr} {H H' : Hp} {a : Addr} {o : HO} (k : Kp ms H H') (h : H a = some o) (n : a ∉ ms) : H' a = some o := k a o h n
theorem Kp.at0 {H H' : Hp} {a : Addr} {o : HO} (k : Kp [] H H') (h : H a = some o) : H' a = some o := k a o h List.not_mem_nil
theorem Kp.trans {ms : List Addr} {H H1 H2 : Hp} (a : Kp ms H H1) (b : Kp ms H1 H2) : Kp ms H H2 := fun c o h n => b c o (a c o h n) n
theorem Kp.trans0 {ms : List Addr} {H H1 H2 : Hp} (a : Kp ms H H1) (b : Kp [] H1 H2) : Kp ms H H2 := fun c o h n => b c o (a c o h n) List.not_mem_nil
theorem Kp.mono {ms ns : List Addr} {H H1 : Hp} (a : Kp ms H H1) (h : ∀ x ∈ ms, x ∈ ns) : Kp ns H H1 := fun c o e n => a c o e (fun z => n (h c z))
theorem Kp.new {ms : List Addr} {H H1 : Hp} {p : Addr} {o : HO} (k : Kp ms H H1) (h : H1 p = none) : Kp ms H (upd H1 p o) := fun a u e n => by
  rw [upd_ne (ne_of_none (k a u e n) h)]
  exact k a u e n
theorem Kp.mut {ms : List Addr} {H H1 : Hp} {p : Addr} {o : HO} (k : Kp ms H H1) (h : p ∈ ms) : Kp ms H (upd H1 p o) := fun a u e n => by
  rw [upd_ne (fun z => n (by rw [z]; exact h))]
  exact k a u e n
/-- an object that was not there at the beginning is changed -/
theorem Kp.own {ms : List Addr} {H H1 : Hp} {p : Addr} {o : HO} (k : Kp ms H H1) (h : H p = none) : Kp ms H (upd H1 p o) := fun a u e n => by
  rw [upd_ne (ne_of_none e h)]
  exact k a u e n
theorem Kp.free {H H' : Hp} {a : Addr} (k : Kp [] H H') (h : H' a = none) : H a = none := by
  cases q : H a with
  | none => rfl
  | some o => rw [k a o q List.not_mem_nil] at h; cases h
theorem Kp.freeM {ms : List Addr} {H H' : Hp} {a : Addr} (k : Kp ms H H') (h : H' a = none) (hm : ∀ b ∈ ms, ∃ o, H' b = some o) : H a = none := by
  cases q : H a with
  | none => rfl
  | some o =>
    by_cases z : a ∈ ms
    · obtain ⟨o', e⟩ := hm a z
      rw [h] at e; cases e
    · rw [k a o q z] at h; cases h
theorem upd_get {H : Hp} {p a : Addr} {o u : HO} (n : a ≠ p) (h : H a = some u) : upd H p o a = some u := by rw [upd_ne n]; exact h
theorem upd_nil {H : Hp} {p a : Addr} {o : HO} (h : upd H p o a = none) : H a = none := by
  unfold upd at h
  split at h
  · cases h
  · exact h
theorem upd_nel {H : Hp} {p a : Addr} {o : HO} (h : upd H p o a = none) : a ≠ p := fun z => by
  rw [z, upd_same] at h; cases h

/-! ### lists under a map -/
theorem map_getD {α : Type} [Inhabited α] {f : α → V} {xs : List α} {i : Nat} (h : i < xs.length) : (xs.map f)[i]? = some (f (xs.getD i default)) := by
  rw [List.getElem?_map, List.getElem?_eq_getElem h]
  simp [List.getD, List.getElem?_eq_getElem h]
theorem getD_some {α : Type} [Inhabited α] {xs : List α} {i : Nat} (h : i < xs.length) : xs[i]? = some (xs.getD i default) := by
  rw [List.getElem?_eq_getElem h]
  simp [List.getD, List.getElem?_eq_getElem h]
theorem atI_pos {α : Type} {xs : List α} {i : Int} {v : α} (h0 : 0 ≤ i) (h : xs[i.toNat]? = some v) : atI xs i = some v := by
  have e : i = ((i.toNat : Nat) : Int) := by omega
  rw [e]
  exact atI_nat (by simpa using h)
theorem ixN_pos {n : Nat} {i : Int} (h0 : 0 ≤ i) (h : i.toNat < n) : ixN n i = some i.toNat := by
  unfold ixN
  rw [if_pos h0, if_pos (by omega)]
theorem map_set {α : Type} {f : α → V} {xs : List α} {i : Nat} {x : α} : (xs.map f).set i (f x) = (xs.set i x).map f := by
  rw [List.map_set]
theorem map_app {α : Type} {f : α → V} {xs : List α} {x : α} : xs.map f ++ [f x] = (xs ++ [x]).map f := by
  rw [List.map_append]; rfl

/-! ### readings by values -/
/-- a + b -/
def aAdd : R2 := fun x y H Q => rI0 (fun i j => .int (i + j)) x y H Q ∨ (∃ i j, x = .str i ∧ y = .str j ∧ i.length + j.length ≤ sizeLine ∧ Q (.str (i ++ j)) H) ∨ rCat x y H Q
/-- a * b -/
def aMul : R2 := fun x y H Q => rI CMul (fun i j => .int (i * j)) x y H Q ∨ rRep x y H Q
/-- x == y of lists of flat things -/
def aEq (K : PySem.W.Frag) : R2 := fun x y H Q => rEq x y H Q ∨ rEqD K x y H Q
def aNe (K : PySem.W.Frag) : R2 := fun x y H Q => rNe x y H Q ∨ rNeD K x y H Q
section
variable {X : Cx}
theorem o_add : OpR X (binaryOp .Add) aAdd := op_add.or (op_add_str.or op_cat)
theorem o_mul : OpR X (binaryOp .Mult) aMul := op_mul.or op_rep
theorem o_eq (hu : X.A.units + 64 < cLine) : OpR X (compareOp .Eq) (aEq X.K) := op_eq.or (op_eqD hu)
theorem o_ne (hu : X.A.units + 64 < cLine) : OpR X (compareOp .NotEq) (aNe X.K) := op_ne.or (op_neD hu)
end
section
variable {i j : Int} {a b : Str} {p q : Addr} {H : Hp} {Q : VK} {xs ys : List V} {K : PySem.W.Frag}
theorem w_addI (k : Q (.int (i + j)) H) : aAdd (.int i) (.int j) H Q := .inl ⟨i, j, rfl, rfl, k⟩
theorem w_addS (h : a.length + b.length ≤ sizeLine) (k : Q (.str (a ++ b)) H) : aAdd (.str a) (.str b) H Q := .inr (.inl ⟨a, b, rfl, rfl, h, k⟩)
theorem w_addLM {α : Type} {f : α → V} {us vs : List α} (hp : H p = some (.lst (us.map f))) (hq : H q = some (.lst (vs.map f))) (hl : us.length + vs.length ≤ sizeLine) (k : ∀ r, H r = none → Q (.ref r) (upd H r (.lst ((us ++ vs).map f)))) : aAdd (.ref p) (.ref q) H Q :=
  .inr (.inr ⟨p, q, _, _, rfl, rfl, hp, hq, by simpa using hl, fun r hr => by rw [← List.map_append]; exact k r hr⟩)
theorem w_addL (hp : H p = some (.lst xs)) (hq : H q = some (.lst ys)) (hl : xs.length + ys.length ≤ sizeLine) (k : ∀ r, H r = none → Q (.ref r) (upd H r (.lst (xs ++ ys)))) : aAdd (.ref p) (.ref q) H Q :=
  .inr (.inr ⟨p, q, _, _, rfl, rfl, hp, hq, hl, k⟩)
theorem w_mulI (h : CMul i j) (k : Q (.int (i * j)) H) : aMul (.int i) (.int j) H Q := .inl ⟨i, j, rfl, rfl, h, k⟩
theorem rep_map {α : Type} {f : α → V} {x : α} {n : Nat} : (List.replicate n [f x]).flatten = (List.replicate n x).map f := by
  induction n with
  | zero => rfl
  | succ n ih => rw [List.replicate_succ, List.flatten_cons, ih, List.replicate_succ]; rfl
theorem w_repI (hp : H p = some (.lst [.int i])) (h1 : -(2 ^ 63) ≤ j) (h2 : j < 2 ^ 63) (h3 : j.toNat ≤ sizeLine) (k : ∀ r, H r = none → Q (.ref r) (upd H r (.lst ((List.replicate j.toNat i).map V.int)))) : aMul (.ref p) (.int j) H Q :=
  .inr ⟨p, j, _, rfl, rfl, hp, h1, h2, by simpa using h3, fun r hr => by rw [rep_map (f := V.int)]; exact k r hr⟩
theorem w_repB {c : Bool} (hp : H p = some (.lst [.bl c])) (h1 : -(2 ^ 63) ≤ j) (h2 : j < 2 ^ 63) (h3 : j.toNat ≤ sizeLine) (k : ∀ r, H r = none → Q (.ref r) (upd H r (.lst ((List.replicate j.toNat c).map V.bl)))) : aMul (.ref p) (.int j) H Q :=
  .inr ⟨p, j, _, rfl, rfl, hp, h1, h2, by simpa using h3, fun r hr => by rw [rep_map (f := V.bl)]; exact k r hr⟩
theorem w_I0 {g : Int → Int → V} (k : Q (g i j) H) : rI0 g (.int i) (.int j) H Q := ⟨i, j, rfl, rfl, k⟩
theorem w_I {C : Int → Int → Prop} {g : Int → Int → V} (c : C i j) (k : Q (g i j) H) : rI C g (.int i) (.int j) H Q := ⟨i, j, rfl, rfl, c, k⟩
theorem w_U {g : Int → V} (k : Q (g i) H) : rU g (.int i) H Q := ⟨i, rfl, k⟩
theorem dI : decide (V.int i = V.int j) = decide (i = j) := by simp
theorem dS : decide (V.str a = V.str b) = decide (a = b) := by simp
theorem dB {c d : Bool} : decide (V.bl c = V.bl d) = decide (c = d) := by simp
theorem w_eqI (k : Q (.bl (decide (i = j))) H) : aEq K (.int i) (.int j) H Q := .inl ⟨rfl, by rw [dI]; exact k⟩
theorem w_eqS (k : Q (.bl (decide (a = b))) H) : aEq K (.str a) (.str b) H Q := .inl ⟨rfl, by rw [dS]; exact k⟩
theorem w_eqB {c d : Bool} (k : Q (.bl (decide (c = d))) H) : aEq K (.bl c) (.bl d) H Q := .inl ⟨rfl, by rw [dB]; exact k⟩
theorem w_neI (k : Q (.bl (!decide (i = j))) H) : aNe K (.int i) (.int j) H Q := .inl ⟨rfl, by rw [dI]; exact k⟩
theorem w_neS (k : Q (.bl (!decide (a = b))) H) : aNe K (.str a) (.str b) H Q := .inl ⟨rfl, by rw [dS]; exact k⟩
theorem w_neB {c d : Bool} (k : Q (.bl (!decide (c = d))) H) : aNe K (.bl c) (.bl d) H Q := .inl ⟨rfl, by rw [dB]; exact k⟩

theorem eqvAll_int : ∀ (ns ms : List Int), PyData.eqvAll (ns.map PyData.int) (ms.map PyData.int) = decide (ns = ms) := by
  intro ns
  induction ns with
  | nil => intro ms; cases ms <;> simp [PyData.eqvAll]
  | cons n ns ih =>
    intro ms
    cases ms with
    | nil => simp [PyData.eqvAll]
    | cons m ms =>
      rw [List.map_cons, List.map_cons, PyData.eqvAll, ih, PyData.eqv, Bool.eq_iff_iff]
      simp
theorem dpAllI : ∀ (ns : List Int), DpAll K H (ns.map V.int) (ns.map PyData.int)
  | [] => .nil
  | n :: ns => .cons (.int n) (dpAllI ns)
theorem shapedI (ns : List Int) : SeqAt.shaped (.list (ns.map PyData.int)) = true := by
  have h1 : ∀ ns : List Int, PyData.canLayAll0 (ns.map PyData.int) = true := by
    intro ns
    induction ns with
    | nil => rfl
    | cons n ns ih => rw [List.map_cons, PyData.canLayAll0, ih]; rfl
  have h2 : ∀ ns : List Int, PyData.depthAll (ns.map PyData.int) = 0 := by
    intro ns
    induction ns with
    | nil => rfl
    | cons n ns ih => rw [List.map_cons, PyData.depthAll, ih]; rfl
  unfold SeqAt.shaped
  rw [PyData.canLay0, h1, PyData.depth, h2]
  decide
theorem w_eqLI {ns ms : List Int} (hp : SqL K H p (ns.map V.int)) (hq : SqL K H q (ms.map V.int)) (k : Q (.bl (decide (ns = ms))) H) : aEq K (.ref p) (.ref q) H Q :=
  .inr ⟨_, _, .lst hp (dpAllI ns), .lst hq (dpAllI ms), shapedI ns, shapedI ms, by rw [PyData.eqv, eqvAll_int]; exact k⟩
theorem w_neLI {ns ms : List Int} (hp : SqL K H p (ns.map V.int)) (hq : SqL K H q (ms.map V.int)) (k : Q (.bl (!decide (ns = ms))) H) : aNe K (.ref p) (.ref q) H Q :=
  .inr ⟨_, _, .lst hp (dpAllI ns), .lst hq (dpAllI ms), shapedI ns, shapedI ms, by rw [PyData.eqv, eqvAll_int]; exact k⟩
end
/-- is None -/
def aIsN : R2 := fun x y H Q => y = .non ∧ Q (.bl (decide (x = .non))) H
def aNotN : R2 := fun x y H Q => y = .non ∧ Q (.bl (!decide (x = .non))) H
theorem o_isN {X : Cx} : OpR X (compareOp .Is) aIsN := op_isN
theorem o_notN {X : Cx} : OpR X (compareOp .IsNot) aNotN := op_notN
section
variable {i j : Int} {a b : Str} {p q : Addr} {H : Hp} {Q : VK} {xs ys : List V} {K : PySem.W.Frag} {x v : V}
theorem w_isN_n (k : Q (.bl true) H) : aIsN .non .non H Q := ⟨rfl, k⟩
theorem w_isN_i (k : Q (.bl false) H) : aIsN (.int i) .non H Q := ⟨rfl, k⟩
theorem w_isN_r (k : Q (.bl false) H) : aIsN (.ref p) .non H Q := ⟨rfl, k⟩
theorem w_isN_s (k : Q (.bl false) H) : aIsN (.str a) .non H Q := ⟨rfl, k⟩
theorem w_notN_n (k : Q (.bl false) H) : aNotN .non .non H Q := ⟨rfl, k⟩
theorem w_notN_i (k : Q (.bl true) H) : aNotN (.int i) .non H Q := ⟨rfl, k⟩
theorem w_notN_r (k : Q (.bl true) H) : aNotN (.ref p) .non H Q := ⟨rfl, k⟩
theorem w_notN_s (k : Q (.bl true) H) : aNotN (.str a) .non H Q := ⟨rfl, k⟩
/-! x[i] -/
theorem w_ixC {xs : List V} {n : Nat} (hp : H p = some (.lst xs)) (hv : xs[n]? = some v) (k : Q v H) : rIx K (.ref p) (.int (n : Int)) H Q := .inl ⟨p, _, _, v, rfl, rfl, SqL.of hp, atI_nat hv, k⟩
theorem w_ixM {α : Type} [Inhabited α] {f : α → V} {us : List α} (hp : H p = some (.lst (us.map f))) (h0 : 0 ≤ i) (hl : i.toNat < us.length) (k : Q (f (us.getD i.toNat default)) H) : rIx K (.ref p) (.int i) H Q :=
  .inl ⟨p, _, _, _, rfl, rfl, SqL.of hp, atI_pos h0 (map_getD hl), k⟩
theorem w_ixL (hp : H p = some (.lst xs)) (h0 : 0 ≤ i) (hv : xs[i.toNat]? = some v) (k : Q v H) : rIx K (.ref p) (.int i) H Q :=
  .inl ⟨p, _, _, v, rfl, rfl, SqL.of hp, atI_pos h0 hv, k⟩
theorem w_ixT (hp : H p = some (.tup xs)) (h0 : 0 ≤ i) (hv : xs[i.toNat]? = some v) (k : Q v H) : rIx K (.ref p) (.int i) H Q :=
  .inr (.inl ⟨p, _, _, v, rfl, rfl, .inl (.inl hp), atI_pos h0 hv, k⟩)
theorem w_ixS {c : Nat} (hl : a.length ≤ sizeLine) (h0 : 0 ≤ i) (hv : a.cps.toList[i.toNat]? = some c) (k : Q (.str ⟨#[c]⟩) H) : rIx K (.str a) (.int i) H Q :=
  .inr (.inr ⟨a, _, c, rfl, rfl, hl, atI_pos h0 hv, k⟩)
/-! x[i] = v -/
theorem w_setM {α : Type} {f : α → V} {us : List α} {u : α} {Q : Hp → Prop} (hp : H p = some (.lst (us.map f))) (h0 : 0 ≤ i) (hl : i.toNat < us.length) (k : Q (upd H p (.lst ((us.set i.toNat u).map f)))) : rSetL (.ref p) (.int i) (f u) H Q :=
  ⟨p, _, _, i.toNat, rfl, rfl, hp, ixN_pos h0 (by simpa using hl), by rw [map_set]; exact k⟩
theorem w_setMI {us : List Int} {u : Int} {Q : Hp → Prop} (hp : H p = some (.lst (us.map V.int))) (h0 : 0 ≤ i) (hl : i.toNat < us.length) (k : Q (upd H p (.lst ((us.set i.toNat u).map V.int)))) : rSetL (.ref p) (.int i) (.int u) H Q := w_setM hp h0 hl k
theorem w_setMB {us : List Bool} {u : Bool} {Q : Hp → Prop} (hp : H p = some (.lst (us.map V.bl))) (h0 : 0 ≤ i) (hl : i.toNat < us.length) (k : Q (upd H p (.lst ((us.set i.toNat u).map V.bl)))) : rSetL (.ref p) (.int i) (.bl u) H Q := w_setM hp h0 hl k
theorem w_setMS {us : List Str} {u : Str} {Q : Hp → Prop} (hp : H p = some (.lst (us.map V.str))) (h0 : 0 ≤ i) (hl : i.toNat < us.length) (k : Q (upd H p (.lst ((us.set i.toNat u).map V.str)))) : rSetL (.ref p) (.int i) (.str u) H Q := w_setM hp h0 hl k
theorem w_setL {u : V} {Q : Hp → Prop} (hp : H p = some (.lst xs)) (h0 : 0 ≤ i) (hl : i.toNat < xs.length) (k : Q (upd H p (.lst (xs.set i.toNat u)))) : rSetL (.ref p) (.int i) u H Q :=
  ⟨p, _, _, i.toNat, rfl, rfl, hp, ixN_pos h0 hl, k⟩
/-! methods of lists: the type is asked first -/
theorem w_tyL (hp : H p = some (.lst xs)) (k : A) : tyV K "list" (.ref p) H ∧ A := ⟨.inl ⟨rfl, _, SqL.of hp⟩, k⟩
theorem w_tyS (k : A) : tyV K "str" (.str a) H ∧ A := ⟨rfl, k⟩
theorem w_appMI {us : List Int} {u : Int} (hp : H p = some (.lst (us.map V.int))) (hl : us.length < sizeLine) (k : Q .non (upd H p (.lst ((us ++ [u]).map V.int)))) : rAppend (.ref p) [.int u] H Q := ⟨p, _, _, rfl, rfl, hp, by simpa using hl, by rw [map_app (f := V.int)]; exact k⟩
theorem w_appMS {us : List Str} {u : Str} (hp : H p = some (.lst (us.map V.str))) (hl : us.length < sizeLine) (k : Q .non (upd H p (.lst ((us ++ [u]).map V.str)))) : rAppend (.ref p) [.str u] H Q := ⟨p, _, _, rfl, rfl, hp, by simpa using hl, by rw [map_app (f := V.str)]; exact k⟩
theorem w_appMB {us : List Bool} {u : Bool} (hp : H p = some (.lst (us.map V.bl))) (hl : us.length < sizeLine) (k : Q .non (upd H p (.lst ((us ++ [u]).map V.bl)))) : rAppend (.ref p) [.bl u] H Q := ⟨p, _, _, rfl, rfl, hp, by simpa using hl, by rw [map_app (f := V.bl)]; exact k⟩
theorem w_appL {u : V} (hp : H p = some (.lst xs)) (hl : xs.length < sizeLine) (k : Q .non (upd H p (.lst (xs ++ [u])))) : rAppend (.ref p) [u] H Q := ⟨p, _, _, rfl, rfl, hp, hl, k⟩
theorem w_rev (hp : H p = some (.lst xs)) (k : Q .non (upd H p (.lst xs.reverse))) : rReverse (.ref p) [] H Q := ⟨p, _, rfl, rfl, hp, k⟩
def rInsert : V → List V → Hp → VK → Prop := fun x vs H Q => ∃ (l : Addr) (xs : List V) (i : Int) (y : V), x = .ref l ∧ vs = [.int i, y] ∧ H l = some (.lst xs) ∧ xs.length < sizeLine ∧ 0 ≤ i ∧ i < 2 ^ 63 ∧ Q .non (upd H l (.lst (xs.take i.toNat ++ [y] ++ xs.drop i.toNat)))
theorem m_insert {X : Cx} : MtR X "list.insert" rInsert := mt_insert
def insAt {α : Type} (us : List α) (n : Nat) (u : α) : List α := us.take n ++ [u] ++ us.drop n
theorem w_insMI {us : List Int} {u : Int} (hp : H p = some (.lst (us.map V.int))) (hl : us.length < sizeLine) (h0 : 0 ≤ i) (h1 : i < 2 ^ 63) (k : Q .non (upd H p (.lst ((insAt us i.toNat u).map V.int)))) : rInsert (.ref p) [.int i, .int u] H Q :=
  ⟨p, _, _, _, rfl, rfl, hp, by simpa using hl, h0, h1, by rw [← List.map_take, ← List.map_drop, map_app (f := V.int), ← List.map_append]; exact k⟩
theorem w_insMS {us : List Str} {u : Str} (hp : H p = some (.lst (us.map V.str))) (hl : us.length < sizeLine) (h0 : 0 ≤ i) (h1 : i < 2 ^ 63) (k : Q .non (upd H p (.lst ((insAt us i.toNat u).map V.str)))) : rInsert (.ref p) [.int i, .str u] H Q :=
  ⟨p, _, _, _, rfl, rfl, hp, by simpa using hl, h0, h1, by rw [← List.map_take, ← List.map_drop, map_app (f := V.str), ← List.map_append]; exact k⟩
/-! built-ins -/
def rLen (K : PySem.W.Frag) : List V → Hp → VK → Prop := fun xs H Q => ∃ x n, xs = [x] ∧ LenV K x H n ∧ Q (.int n) H
theorem b_len {X : Cx} : CallR X (.builtin "len") (rLen X.K) := call_len
theorem w_lenL (hp : H p = some (.lst xs)) (k : Q (.int xs.length) H) : rLen K [.ref p] H Q := ⟨_, _, rfl, .inl ⟨_, SqL.of hp, rfl⟩, k⟩
theorem w_lenM {α : Type} {f : α → V} {us : List α} (hp : H p = some (.lst (us.map f))) (k : Q (.int us.length) H) : rLen K [.ref p] H Q := ⟨_, _, rfl, .inl ⟨_, SqL.of hp, rfl⟩, by rw [List.length_map]; exact k⟩
theorem w_lenT (hp : H p = some (.tup xs)) (k : Q (.int xs.length) H) : rLen K [.ref p] H Q := ⟨_, _, rfl, .inr ⟨_, .inl (.inl hp), rfl⟩, k⟩
theorem w_lenS (hl : a.length ≤ sizeLine) (k : Q (.int a.length) H) : rLen K [.str a] H Q := ⟨_, _, rfl, ⟨hl, rfl⟩, k⟩
def rAbs : List V → Hp → VK → Prop := fun xs H Q => ∃ i, xs = [.int i] ∧ Q (.int (if i < 0 then -i else i)) H
theorem b_abs {X : Cx} : CallR X (.builtin "abs") rAbs := call_abs
theorem abs_nat (i : Int) : (if i < 0 then -i else i) = (i.natAbs : Int) := by split <;> omega
theorem w_abs (k : Q (.int (i.natAbs : Int)) H) : rAbs [.int i] H Q := ⟨i, rfl, by rw [abs_nat]; exact k⟩
def rMax2 : List V → Hp → VK → Prop := fun xs H Q => ∃ i j, xs = [.int i, .int j] ∧ Q (.int (if j > i then j else i)) H
def rMin2 : List V → Hp → VK → Prop := fun xs H Q => ∃ i j, xs = [.int i, .int j] ∧ Q (.int (if j < i then j else i)) H
theorem b_max2 {X : Cx} (hc : X.calm = true) : CallR X (.builtin "max") rMax2 := call_max2 hc
theorem b_min2 {X : Cx} (hc : X.calm = true) : CallR X (.builtin "min") rMin2 := call_min2 hc
theorem w_max2 (k : Q (.int (max i j)) H) : rMax2 [.int i, .int j] H Q := ⟨i, j, rfl, by rw [show (if j > i then j else i) = max i j by split <;> omega]; exact k⟩
theorem w_min2 (k : Q (.int (min i j)) H) : rMin2 [.int i, .int j] H Q := ⟨i, j, rfl, by rw [show (if j < i then j else i) = min i j by split <;> omega]; exact k⟩
def rInt1 : List V → Hp → VK → Prop := fun xs H Q => (∃ i, xs = [.int i] ∧ Q (.int i) H) ∨ ∃ k, xs = [.bl k] ∧ Q (.int (if k then 1 else 0)) H
theorem b_int {X : Cx} : CallR X (.type "int") rInt1 := call_int1
theorem w_int (k : Q (.int i) H) : rInt1 [.int i] H Q := .inl ⟨i, rfl, k⟩
def rListOf (K : PySem.W.Frag) : List V → Hp → VK → Prop := fun xs H Q => ∃ p ys, xs = [.ref p] ∧ (SqL K H p ys ∨ SqT K H p ys) ∧ ∀ l, H l = none → Q (.ref l) (upd H l (.lst ys))
theorem b_list {X : Cx} : CallR X (.type "list") (rListOf X.K) := call_list_of
theorem w_listL (hp : H p = some (.lst xs)) (k : ∀ l, H l = none → Q (.ref l) (upd H l (.lst xs))) : rListOf K [.ref p] H Q := ⟨p, _, rfl, .inl (SqL.of hp), k⟩
theorem w_listT (hp : H p = some (.tup xs)) (k : ∀ l, H l = none → Q (.ref l) (upd H l (.lst xs))) : rListOf K [.ref p] H Q := ⟨p, _, rfl, .inr (.inl (.inl hp)), k⟩
/-! isinstance -/
section
variable {n : String} {c : Bool}
theorem w_isiI (e : kitB "int" n = some c) (k : Q (.bl c) H) : rIsi K [.int i, .ty n] H Q := ⟨_, _, _, _, c, rfl, .ty n, .base (.int i), kit_ty e, k⟩
theorem w_isiB {d : Bool} (e : kitB "bool" n = some c) (k : Q (.bl c) H) : rIsi K [.bl d, .ty n] H Q := ⟨_, _, _, _, c, rfl, .ty n, .base (.bl d), kit_ty e, k⟩
theorem w_isiS (e : kitB "str" n = some c) (k : Q (.bl c) H) : rIsi K [.str a, .ty n] H Q := ⟨_, _, _, _, c, rfl, .ty n, .base (.str a), kit_ty e, k⟩
theorem w_isiN (e : kitB "NoneType" n = some c) (k : Q (.bl c) H) : rIsi K [.non, .ty n] H Q := ⟨_, _, _, _, c, rfl, .ty n, .base .non, kit_ty e, k⟩
theorem w_isiL (hp : H p = some (.lst xs)) (e : kitB "list" n = some c) (k : Q (.bl c) H) : rIsi K [.ref p, .ty n] H Q := ⟨_, _, _, _, c, rfl, .ty n, .base (.lst hp), kit_ty e, k⟩
theorem w_isiT (hp : H p = some (.tup xs)) (e : kitB "tuple" n = some c) (k : Q (.bl c) H) : rIsi K [.ref p, .ty n] H Q := ⟨_, _, _, _, c, rfl, .ty n, .base (.tup hp), kit_ty e, k⟩
end
theorem kb_ii : kitB "int" "int" = some true := by decide +kernel
theorem kb_ib : kitB "int" "bool" = some false := by decide +kernel
theorem kb_is : kitB "int" "str" = some false := by decide +kernel
theorem kb_il : kitB "int" "list" = some false := by decide +kernel
theorem kb_it : kitB "int" "tuple" = some false := by decide +kernel
theorem kb_bi : kitB "bool" "int" = some true := by decide +kernel
theorem kb_bb : kitB "bool" "bool" = some true := by decide +kernel
theorem kb_bt : kitB "bool" "tuple" = some false := by decide +kernel
theorem kb_ss : kitB "str" "str" = some true := by decide +kernel
theorem kb_si : kitB "str" "int" = some false := by decide +kernel
theorem kb_st : kitB "str" "tuple" = some false := by decide +kernel
theorem kb_sl : kitB "str" "list" = some false := by decide +kernel
theorem kb_ll : kitB "list" "list" = some true := by decide +kernel
theorem kb_lt : kitB "list" "tuple" = some false := by decide +kernel
theorem kb_li : kitB "list" "int" = some false := by decide +kernel
theorem kb_tt : kitB "tuple" "tuple" = some true := by decide +kernel
theorem kb_tl : kitB "tuple" "list" = some false := by decide +kernel
theorem kb_nt : kitB "NoneType" "tuple" = some false := by decide +kernel
theorem kb_ni : kitB "NoneType" "int" = some false := by decide +kernel
theorem kb_nl : kitB "NoneType" "list" = some false := by decide +kernel
theorem kb_ns : kitB "NoneType" "str" = some false := by decide +kernel

/-! truth, tests -/
/-- a value's truth -/
def aTru (K : PySem.W.Frag) : V → Hp → (Bool → Hp → Prop) → Prop := fun x H Q => ∃ k, TruV K x H k ∧ Q k H
def cTru (K : PySem.W.Frag) (ta : TE) : TT := fun σ H Q => ta σ H fun x H' => aTru K x H' Q
theorem pt_tru {X : Cx} {e : Expr} {ta : TE} (ha : PE X e ta) (he : ∀ whole, isTrue e X.env whole = (do let v ← whole; standAt e.pos; holding [v] (truthy v)) := by intro _; rfl) : PT X e (cTru X.K ta) := pt_truth ha he
section
variable {R : Bool → Hp → Prop} {c : Bool}
theorem w_truB (k : R c H) : aTru K (.bl c) H R := ⟨c, rfl, k⟩
theorem w_truI (k : R (i != 0) H) : aTru K (.int i) H R := ⟨_, rfl, k⟩
theorem w_truN (k : R false H) : aTru K .non H R := ⟨_, rfl, k⟩
theorem w_truS (hl : a.length ≤ sizeLine) (k : R ((a.length : Int) != 0) H) : aTru K (.str a) H R := ⟨_, ⟨hl, rfl⟩, k⟩
theorem w_truL (hp : H p = some (.lst xs)) (k : R (!xs.isEmpty) H) : aTru K (.ref p) H R := ⟨_, .inl ⟨_, SqL.of hp, rfl⟩, k⟩
theorem w_truT (hp : H p = some (.tup xs)) (k : R (!xs.isEmpty) H) : aTru K (.ref p) H R := ⟨_, .inr (.inl ⟨_, .inl (.inl hp), rfl⟩), k⟩
end
def aB (x : V) (H : Hp) (R : Bool → Hp → Prop) : Prop := ∃ k, x = .bl k ∧ R k H
def cB (t : TE) : TT := fun σ H Q => t σ H fun x H' => aB x H' Q
theorem pt_cmpA {X : Cx} {op : CmpOp} {r : R2} {e1 e2 : Expr} {ta tb : TE} {pos : Pos} (ho : OpR X (compareOp op) r) (ha : PE X e1 ta) (hb : PE X e2 tb) (hm : behindInMarks op e2 = false) : PT X (.Compare e1 [op] [e2] pos) (cB (tOp r ta tb)) := pt_cmpR ho ha hb hm
theorem pt_chainA {X : Cx} {op op' : CmpOp} {r r' : R2} {e1 e2 e3 : Expr} {ta tb tc : TE} {pos : Pos} (ho : OpR X (compareOp op) r) (ho' : OpR X (compareOp op') r') (ha : PE X e1 ta) (hb : PE X e2 tb) (hc : PE X e3 tc) (hm : lastMarks [op, op'] [e2, e3] = false := by with_unfolding_all rfl) :
    PT X (.Compare e1 [op, op'] [e2, e3] pos) (cB (tChain r r' ta tb tc)) := pt_chain ho ho' ha hb hc hm
theorem w_B {c : Bool} {R : Bool → Hp → Prop} (k : R c H) : aB (.bl c) H R := ⟨c, rfl, k⟩
end
/-! ### ifs -/
section
variable {A B : Prop} {p : Prop} [Decidable p]
theorem w_ite (h1 : p → A) (h2 : ¬p → B) : if decide p = true then A else B := by
  by_cases h : p
  · rw [if_pos (by simpa using h)]; exact h1 h
  · rw [if_neg (by simpa using h)]; exact h2 h
theorem w_iteT (h : p) (k : A) : if decide p = true then A else B := by rw [if_pos (by simpa using h)]; exact k
theorem w_iteF (h : ¬p) (k : B) : if decide p = true then A else B := by rw [if_neg (by simpa using h)]; exact k
theorem w_iteN (h1 : ¬p → A) (h2 : p → B) : if (!decide p) = true then A else B := by
  by_cases h : p
  · rw [if_neg (by simpa using h)]; exact h2 h
  · rw [if_pos (by simpa using h)]; exact h1 h
theorem w_iteNT (h : ¬p) (k : A) : if (!decide p) = true then A else B := by rw [if_pos (by simpa using h)]; exact k
theorem w_iteNF (h : p) (k : B) : if (!decide p) = true then A else B := by rw [if_neg (by simpa using h)]; exact k
theorem w_ite1 (k : A) : if true = true then A else B := by rw [if_pos rfl]; exact k
theorem w_ite0 (k : B) : if false = true then A else B := by rw [if_neg Bool.false_ne_true]; exact k
theorem w_iteb {b : Bool} (h1 : b = true → A) (h2 : b = false → B) : if b = true then A else B := by
  cases b
  · rw [if_neg Bool.false_ne_true]; exact h2 rfl
  · rw [if_pos rfl]; exact h1 rfl
theorem w_itebT {b : Bool} (h : b = true) (k : A) : if b = true then A else B := by rw [if_pos h]; exact k
theorem w_itebF {b : Bool} (h : b = false) (k : B) : if b = true then A else B := by rw [h, if_neg Bool.false_ne_true]; exact k
theorem w_itenb {b : Bool} (h1 : b = false → A) (h2 : b = true → B) : if (!b) = true then A else B := by
  cases b
  · rw [if_pos (by decide)]; exact h1 rfl
  · rw [if_neg (by decide)]; exact h2 rfl
theorem w_itenbT {b : Bool} (h : b = false) (k : A) : if (!b) = true then A else B := by rw [h, if_pos (by decide)]; exact k
theorem w_itenbF {b : Bool} (h : b = true) (k : B) : if (!b) = true then A else B := by rw [h, if_neg (by decide)]; exact k
end
/-! ### structure: what a reading says, one step -/
section
variable {σ σ' : St} {H : Hp} {Q : VK} {D : Ends} {ta tb : TE} {t u : TT} {tl tr : TA} {ts us : TS} {g : TG} {gs : TGs} {r : R2} {i : Nat} {v : V} {K : PySem.W.Frag}
theorem s_var (h : σ[i]? = some (some v)) (k : Q v H) : tVar i σ H Q := ⟨v, h, k⟩
theorem s_c (k : Q v H) : tC v σ H Q := k
theorem s_op (k : ta σ H fun x H1 => tb σ H1 fun y H2 => r x y H2 Q) : tOp r ta tb σ H Q := k
theorem s_un {r : V → Hp → VK → Prop} (k : ta σ H fun x H1 => r x H1 Q) : tUn r ta σ H Q := k
theorem s_nil {Q : List V → Hp → Prop} (k : Q [] H) : tNil σ H Q := k
theorem s_cons {Q : List V → Hp → Prop} (k : ta σ H fun x H1 => tl σ H1 fun xs H2 => Q (x :: xs) H2) : tCons ta tl σ H Q := k
theorem s_callS {sp : Sp} {E : St → XK} (k : tl σ H fun vs H1 => sp vs H1 Q (E σ)) : tCallS sp E tl σ H Q := k
theorem s_CB {r : List V → Hp → VK → Prop} (k : tl σ H fun vs H1 => r vs H1 Q) : tCB r tl σ H Q := k
theorem s_BM {T : String} {r : V → List V → Hp → VK → Prop} (k : ta σ H fun x H1 => tyV K T x H1 ∧ tl σ H1 fun xs H2 => r x xs H2 Q) : tBM K T r ta tl σ H Q := k
theorem s_BM0 {T : String} {r : V → List V → Hp → VK → Prop} (k : ta σ H fun x H1 => tyV K T x H1 ∧ r x [] H1 Q) : tBM0 K T r ta σ H Q := k
theorem s_seq (k : ts { D with nx := us D } σ H) : tSeq ts us D σ H := k
theorem s_next (k : D.nx σ H) : tNext D σ H := k
theorem s_asg (k : ta σ H fun x H1 => g x σ H1 D.nx) : tAsg ta g D σ H := k
theorem s_name {Q : St → Hp → Prop} (e : σ.set i (some v) = σ') (k : Q σ' H) : gName i v σ H Q := by
  show Q (σ.set i (some v)) H
  rw [e]; exact k
theorem s_sub {to ti : TE} {t : TSet} {Q : St → Hp → Prop} (k : to σ H fun o H1 => ti σ H1 fun i H2 => t o i v H2 fun H3 => Q σ H3) : gSub to ti t v σ H Q := k
theorem s_ret (k : ta σ H D.rt) : tRet ta D σ H := k
theorem s_retN (k : D.rt .non H) : tRetN D σ H := k
theorem s_drop (k : ta σ H fun _ H1 => D.nx σ H1) : tDrop ta D σ H := k
theorem s_ifS (k : t σ H fun b H1 => if b = true then ts D σ H1 else us D σ H1) : tIfS t ts us D σ H := k
theorem s_if (k : t σ H fun b H1 => if b = true then ta σ H1 Q else tb σ H1 Q) : tIf t ta tb σ H Q := k
theorem s_tru {Q : Bool → Hp → Prop} (k : ta σ H fun x H1 => aTru K x H1 Q) : cTru K ta σ H Q := k
theorem s_B {Q : Bool → Hp → Prop} (k : ta σ H fun x H1 => aB x H1 Q) : cB ta σ H Q := k
theorem s_and {Q : Bool → Hp → Prop} (k : t σ H fun c H1 => if c = true then u σ H1 Q else Q false H1) : tAnd t u σ H Q := k
theorem s_or {Q : Bool → Hp → Prop} (k : t σ H fun c H1 => if c = true then Q true H1 else u σ H1 Q) : tOr t u σ H Q := k
theorem s_not {Q : Bool → Hp → Prop} (k : t σ H fun c H1 => Q (!c) H1) : tNot t σ H Q := k
theorem s_andV (k : ta σ H fun x H1 => aB x H1 fun c H2 => if c = true then tb σ H2 Q else Q (.bl false) H2) : tAndV ta tb σ H Q := k
theorem s_orV (k : ta σ H fun x H1 => aB x H1 fun c H2 => if c = true then Q (.bl true) H2 else tb σ H2 Q) : tOrV ta tb σ H Q := k
theorem s_notV (k : ta σ H fun x H1 => aB x H1 fun c H2 => Q (.bl (!c)) H2) : tNotV ta σ H Q := k
theorem s_lst (k : tl σ H fun xs H1 => xs.length ≤ sizeLine ∧ ∀ p, H1 p = none → Q (.ref p) (upd H1 p (.lst xs))) : tLst tl σ H Q := k
theorem s_tup (k : tl σ H fun xs H1 => xs.length ≤ sizeLine ∧ ∀ p, H1 p = none → Q (.ref p) (upd H1 p (.tup xs))) : tTup tl σ H Q := k
theorem s_chain {r' : R2} {tc : TE} (k : ta σ H fun x H1 => tb σ H1 fun y H2 => r x y H2 fun z H3 => aB z H3 fun c H4 => if c = true then tc σ H4 fun w' H5 => r' y w' H5 Q else Q (.bl false) H4) : tChain r r' ta tb tc σ H Q := by
  unfold tChain
  have hm := k
  exact k
end
/-! ### slices -/
def rSlA (K : PySem.W.Frag) : V → Option Int → Option Int → Hp → VK → Prop := fun x lo hi H Q => rSlL K x lo hi H Q ∨ rSlS x lo hi H Q ∨ rSlT K x lo hi H Q
theorem sl_any {X : Cx} : SlR X (rSlA X.K) := sl_list.or (sl_str.or sl_tup)
theorem not_mem2 {a b : Addr} {l : List Addr} (h : a ≠ b) (h2 : a ∉ l) : a ∉ b :: l := fun z => by
  rcases List.mem_cons.mp z with z | z
  · exact h z
  · exact h2 z
theorem w_new {n : Nat} {B : Prop} (h : n ≤ sizeLine) (k : B) : n ≤ sizeLine ∧ B := ⟨h, k⟩
/-- the part of a list from lo to hi -/
def cut {α : Type} (xs : List α) (lo hi : Option Int) : List α := (xs.drop (HT.sIx xs.length 0 lo)).take (HT.sIx xs.length xs.length hi - HT.sIx xs.length 0 lo)
theorem cutV_map {α : Type} {f : α → V} {us : List α} {lo hi : Option Int} : cutV (us.map f) lo hi = (cut us lo hi).map f := by
  unfold cutV cut
  rw [List.length_map, List.map_take, List.map_drop]
section
variable {σ : St} {H : Hp} {Q : VK} {te : TE} {K : PySem.W.Frag} {p : Addr} {lo hi : Option Int} {xs : List V} {z : Str}
theorem s_sl {r : V → Option Int → Option Int → Hp → VK → Prop} {tl th : TO} (k : te σ H fun x H1 => tl σ H1 fun l H2 => th σ H2 fun u H3 => r x l u H3 Q) : tSl r te tl th σ H Q := k
theorem s_nopart {R : Option Int → Hp → Prop} (k : R none H) : tNoPart σ H R := k
def aPart (R : Option Int → Hp → Prop) : VK := fun x H1 => ∃ i, x = .int i ∧ R (some i) H1
theorem s_part {R : Option Int → Hp → Prop} (k : te σ H (aPart R)) : tPart te σ H R := k
theorem w_part {i : Int} {R : Option Int → Hp → Prop} (k : R (some i) H) : aPart R (.int i) H := ⟨i, rfl, k⟩
theorem w_slM {α : Type} {f : α → V} {us : List α} (hp : H p = some (.lst (us.map f))) (k : ∀ r, H r = none → Q (.ref r) (upd H r (.lst ((cut us lo hi).map f)))) : rSlA K (.ref p) lo hi H Q :=
  .inl ⟨p, _, rfl, SqL.of hp, fun r hr => by rw [cutV_map]; exact k r hr⟩
theorem w_slL (hp : H p = some (.lst xs)) (k : ∀ r, H r = none → Q (.ref r) (upd H r (.lst (cutV xs lo hi)))) : rSlA K (.ref p) lo hi H Q :=
  .inl ⟨p, _, rfl, SqL.of hp, k⟩
theorem w_slQ {α : Type} {f : α → V} {us : List α} (hp : SqL K H p (us.map f)) (k : ∀ r, H r = none → Q (.ref r) (upd H r (.lst ((cut us lo hi).map f)))) : rSlA K (.ref p) lo hi H Q :=
  .inl ⟨p, _, rfl, hp, fun r hr => by rw [cutV_map]; exact k r hr⟩
theorem w_slS (hl : z.length ≤ sizeLine) (k : Q (.str (cutS z lo hi)) H) : rSlA K (.str z) lo hi H Q := .inr (.inl ⟨z, rfl, hl, k⟩)
end
end Lk
namespace Lk
open PySem PySem.Spec PyProof.Rows L2

/-! ### for -/
/-- what is asked once the iterator J stands -/
def aLoop (J : It) (g : TG) (tb : TS) (D : Ends) (σ : St) (H1 : Hp) : Prop := ∃ W : Nat → Nat → St → Hp → Prop, (∃ m, W 0 m σ H1) ∧ ∀ i m σ H, W i m σ H →
  (J.stop i H ∧ D.nx σ H) ∨ (J.go i H ∧ ∃ N : St → Hp → Prop, (∀ σ' H', N σ' H' → ∃ m', m' < m ∧ W (i + 1) m' σ' H') ∧ ∀ x H', J.yld i H x H' → g x σ H' fun σ2 H2 => tb { D with nx := N, ct := N, bk := D.nx } σ2 H2)
def aRng1 (g : TG) (tb : TS) (D : Ends) (σ : St) (vs : List V) (H1 : Hp) : Prop := ∃ j : Int, vs = [.int j] ∧ -(2 ^ 62) ≤ j ∧ j < 2 ^ 62 ∧ aLoop (Itr 0 j.toNat) g tb D σ H1
def aRng2 (g : TG) (tb : TS) (D : Ends) (σ : St) (vs : List V) (H1 : Hp) : Prop := ∃ i j : Int, vs = [.int i, .int j] ∧ (-(2 ^ 62) ≤ i ∧ i < 2 ^ 62 ∧ -(2 ^ 62) ≤ j ∧ j < 2 ^ 62) ∧ aLoop (Itr i (j - i).toNat) g tb D σ H1
def aFList (K : PySem.W.Frag) (g : TG) (tb : TS) (D : Ends) (σ : St) (x : V) (H1 : Hp) : Prop := ∃ a, x = .ref a ∧ (∃ xs, SqL K H1 a xs) ∧ aLoop (Itl K a) g tb D σ H1
def aFEnum (K : PySem.W.Frag) (g : TG) (tb : TS) (D : Ends) (σ : St) (vs : List V) (H1 : Hp) : Prop := ∃ a xs, vs = [.ref a] ∧ SqL K H1 a xs ∧ aLoop (Ite K a) g tb D σ H1
section
variable {σ : St} {H : Hp} {D : Ends} {g : TG} {tb : TS} {ta : TA} {te : TE} {K : PySem.W.Frag}
theorem s_forR1 (k : ta σ H fun vs H1 => aRng1 g tb D σ vs H1) : tFor (iRng1 ta) g tb D σ H := k
theorem s_forR2 (k : ta σ H fun vs H1 => aRng2 g tb D σ vs H1) : tFor (iRng2 ta) g tb D σ H := k
theorem s_forL (k : te σ H fun x H1 => aFList K g tb D σ x H1) : tFor (iList K te) g tb D σ H := k
theorem s_forE (k : ta σ H fun vs H1 => aFEnum K g tb D σ vs H1) : tFor (iEnum K ta) g tb D σ H := k
variable {nx bk ct : St → Hp → Prop} {rt : VK} {j j' : Nat}
theorem w_rng1 {n : Int} (hn : n < 2 ^ 62 := by omega) (hn' : -(2 ^ 62) ≤ n := by omega) (Pv : Nat → St → Hp → Prop) (h0 : Pv 0 σ H)
    (hs : ∀ (i : Nat) σ' H', (i : Int) < n → Pv i σ' H' → tb ⟨Pv (i + 1), rt, nx, Pv (i + 1)⟩ (σ'.set j (some (.int (i : Int)))) H') (hd : ∀ σ' H', Pv n.toNat σ' H' → nx σ' H') : aRng1 (gName j) tb ⟨nx, rt, bk, ct⟩ σ [.int n] H :=
  ⟨n, rfl, hn', hn, for_range (lo := 0) (n := n.toNat) Pv h0 (fun i σ' H' hi p => by
    show tb ⟨Pv (i + 1), rt, nx, Pv (i + 1)⟩ (σ'.set j (some (.int ((0 : Int) + (i : Int))))) H'
    rw [Int.zero_add]
    exact hs i σ' H' (by omega) p) hd⟩
theorem w_rng2 {lo n : Int} (hl : -(2 ^ 62) ≤ lo := by omega) (hl' : lo < 2 ^ 62 := by omega) (hn : n < 2 ^ 62 := by omega) (hn' : -(2 ^ 62) ≤ n := by omega) (Pv : Nat → St → Hp → Prop) (h0 : Pv 0 σ H)
    (hs : ∀ (i : Nat) σ' H', lo + (i : Int) < n → Pv i σ' H' → tb ⟨Pv (i + 1), rt, nx, Pv (i + 1)⟩ (σ'.set j (some (.int (lo + (i : Int))))) H') (hd : ∀ σ' H', Pv (n - lo).toNat σ' H' → nx σ' H') : aRng2 (gName j) tb ⟨nx, rt, bk, ct⟩ σ [.int lo, .int n] H :=
  ⟨lo, n, rfl, ⟨hl, hl', hn', hn⟩, for_range (lo := lo) (n := (n - lo).toNat) Pv h0 (fun i σ' H' hi p => hs i σ' H' (by omega) p) hd⟩
/-- over a list that stands still; the item is f of us's -/
theorem w_forM {α : Type} {f : α → V} {us : List α} {p : Addr} (hp : H p = some (.lst (us.map f))) (Pv : Nat → St → Hp → Prop) (h0 : Pv 0 σ H) (hl : ∀ i σ' H', i ≤ us.length → Pv i σ' H' → H' p = some (.lst (us.map f)))
    (hs : ∀ (i : Nat) (u : α) σ' H', us[i]? = some u → Pv i σ' H' → g (f u) σ' H' fun σ2 H2 => tb ⟨Pv (i + 1), rt, nx, Pv (i + 1)⟩ σ2 H2) (hd : ∀ σ' H', Pv us.length σ' H' → nx σ' H') : aFList K g tb ⟨nx, rt, bk, ct⟩ σ (.ref p) H :=
  ⟨p, rfl, ⟨_, SqL.of hp⟩, for_list (K := K) (a := p) (xs := us.map f) Pv h0 (fun i σ' H' hi q => SqL.of (hl i σ' H' (by simpa using hi) q)) (fun i x σ' H' hx q => by
    rw [List.getElem?_map] at hx
    cases e : us[i]? with
    | none => rw [e] at hx; cases hx
    | some u =>
      rw [e] at hx
      cases hx
      exact hs i u σ' H' e q) (fun σ' H' q => hd σ' H' (by simpa using q))⟩
/-- a raw list -/
theorem w_forL {xs : List V} {p : Addr} (hp : H p = some (.lst xs)) (Pv : Nat → St → Hp → Prop) (h0 : Pv 0 σ H) (hl : ∀ i σ' H', i ≤ xs.length → Pv i σ' H' → H' p = some (.lst xs))
    (hs : ∀ (i : Nat) (u : V) σ' H', xs[i]? = some u → Pv i σ' H' → g u σ' H' fun σ2 H2 => tb ⟨Pv (i + 1), rt, nx, Pv (i + 1)⟩ σ2 H2) (hd : ∀ σ' H', Pv xs.length σ' H' → nx σ' H') : aFList K g tb ⟨nx, rt, bk, ct⟩ σ (.ref p) H :=
  ⟨p, rfl, ⟨_, SqL.of hp⟩, for_list (K := K) (a := p) (xs := xs) Pv h0 (fun i σ' H' hi q => SqL.of (hl i σ' H' hi q)) hs hd⟩
theorem for_enum {a : Addr} {xs : List V} (Pv : Nat → St → Hp → Prop) (h0 : Pv 0 σ H) (hl : ∀ i σ H, i ≤ xs.length → Pv i σ H → SqL K H a xs)
    (hs : ∀ i x T σ H, xs[i]? = some x → Pv i σ H → H T = none → g (.ref T) σ (upd H T (.tup [.int (i : Nat), x])) fun σ2 H2 => tb { D with nx := Pv (i + 1), ct := Pv (i + 1), bk := D.nx } σ2 H2) (hd : ∀ σ H, Pv xs.length σ H → D.nx σ H) : aLoop (Ite K a) g tb D σ H := by
  refine ⟨fun i m σ H => m = xs.length - i ∧ i ≤ xs.length ∧ Pv i σ H, ⟨xs.length, by simp, Nat.zero_le _, h0⟩, ?_⟩
  rintro i m σ H ⟨rfl, hi, p⟩
  have q := hl i σ H hi p
  by_cases hlt : i < xs.length
  · refine .inr ⟨⟨xs, xs[i], q, by simp [hlt]⟩, Pv (i + 1), fun σ' H' p' => ⟨xs.length - (i + 1), by omega, rfl, hlt, p'⟩, fun x H' y => ?_⟩
    obtain ⟨T, z, e1, e2, e3, y⟩ := y
    subst e1 e3
    exact hs i z T σ _ (y xs q) p e2
  · have e : i = xs.length := by omega
    subst e
    exact .inl ⟨⟨xs, q, Nat.le_refl _⟩, hd σ H p⟩
/-- for i, x in enumerate(xs), i in slot j, x in slot j' -/
theorem w_enumM {α : Type} {f : α → V} {us : List α} {p : Addr} (hp : H p = some (.lst (us.map f))) (Pv : Nat → St → Hp → Prop) (h0 : Pv 0 σ H) (hl : ∀ i σ' H', i ≤ us.length → Pv i σ' H' → H' p = some (.lst (us.map f)))
    (hs : ∀ (i : Nat) (u : α) (T : Addr) σ' H', us[i]? = some u → Pv i σ' H' → H' T = none → tb ⟨Pv (i + 1), rt, nx, Pv (i + 1)⟩ ((σ'.set j (some (.int (i : Int)))).set j' (some (f u))) (upd H' T (.tup [.int (i : Int), f u]))) (hd : ∀ σ' H', Pv us.length σ' H' → nx σ' H') :
    aFEnum K (gTup K 2 (gCons (gName j) (gCons (gName j') gNil))) tb ⟨nx, rt, bk, ct⟩ σ [.ref p] H :=
  ⟨p, _, rfl, SqL.of hp, for_enum (K := K) (a := p) (xs := us.map f) Pv h0 (fun i σ' H' hi q => SqL.of (hl i σ' H' (by simpa using hi) q)) (fun i x T σ' H' hx q hT => by
    rw [List.getElem?_map] at hx
    cases e : us[i]? with
    | none => rw [e] at hx; cases hx
    | some u =>
      rw [e] at hx
      cases hx
      exact ⟨T, _, rfl, .inl (.inl upd_same), rfl, _, _, rfl, _, _, rfl, rfl, hs i u T σ' H' e q hT⟩) (fun σ' H' q => hd σ' H' (by simpa using q))⟩

/-- the items of any kind, with any target for the item -/
theorem w_enumG {g : TG} {xs : List V} {p : Addr} (hp : H p = some (.lst xs)) (Pv : Nat → St → Hp → Prop) (h0 : Pv 0 σ H) (hl : ∀ i σ' H', i ≤ xs.length → Pv i σ' H' → H' p = some (.lst xs))
    (hs : ∀ (i : Nat) (u : V) (T : Addr) σ' H', xs[i]? = some u → Pv i σ' H' → H' T = none → g u (σ'.set j (some (.int (i : Int)))) (upd H' T (.tup [.int (i : Int), u])) fun σ2 H2 => gNil [] σ2 H2 fun σ3 H3 => tb ⟨Pv (i + 1), rt, nx, Pv (i + 1)⟩ σ3 H3) (hd : ∀ σ' H', Pv xs.length σ' H' → nx σ' H') :
    aFEnum K (gTup K 2 (gCons (gName j) (gCons g gNil))) tb ⟨nx, rt, bk, ct⟩ σ [.ref p] H :=
  ⟨p, _, rfl, SqL.of hp, for_enum (K := K) (a := p) (xs := xs) Pv h0 (fun i σ' H' hi q => SqL.of (hl i σ' H' hi q)) (fun i x T σ' H' hx q hT => by
    refine ⟨T, _, rfl, .inl (.inl upd_same), rfl, _, _, rfl, _, _, rfl, ?_⟩
    exact hs i x T σ' H' hx q hT) (fun σ' H' q => hd σ' H' q)⟩

theorem w_gTup {Q : St → Hp → Prop} {a : Addr} {xs : List V} {m : Nat} {t : TGs} (hp : H a = some (.tup xs)) (hl : xs.length = m) (k : t xs σ H Q) : gTup K m t (.ref a) σ H Q := ⟨a, xs, rfl, .inl (.inl hp), hl, k⟩
theorem w_gCons {Q : St → Hp → Prop} {v : V} {r : List V} {t : TG} {u : TGs} (k : t v σ H fun σ' H' => u r σ' H' Q) : gCons t u (v :: r) σ H Q := ⟨v, r, rfl, k⟩
theorem w_gNil {Q : St → Hp → Prop} (k : Q σ H) : gNil [] σ H Q := ⟨rfl, k⟩
/-! ### a cut: what follows is shown once -/
def tCut (t u : TS) : TS := fun D σ H => ∃ Mid : St → Hp → Prop, t { D with nx := Mid } σ H ∧ ∀ σ' H', Mid σ' H' → u D σ' H'
theorem pss_cut {X : Cx} {st : Stmt} {rest : List Stmt} {t u : TS} (h1 : PS X st t) (h2 : PSs X rest u) : PSs X (st :: rest) (tCut t u) := by
  refine ⟨fun pins s σ H D I h => ?_⟩
  obtain ⟨Mid, ht, hu⟩ := h
  refine wpAny_execs_cons (thn (h1.run pins s σ H { D with nx := Mid } I ht) fun f s1 q => ?_)
  cases f with
  | next =>
    obtain ⟨σ', H', I', q⟩ := q
    exact h2.run pins s1 σ' H' D I' (hu σ' H' q)
  | ret v => exact q
  | brk => exact q
  | cont => exact q
theorem s_cut {σ : St} {H : Hp} {ts us : TS} {nx bk ct : St → Hp → Prop} {rt : VK} (Mid : St → Hp → Prop) (h1 : ts ⟨Mid, rt, bk, ct⟩ σ H) (h2 : ∀ σ' H', Mid σ' H' → us ⟨nx, rt, bk, ct⟩ σ' H') : tCut ts us ⟨nx, rt, bk, ct⟩ σ H := ⟨Mid, h1, h2⟩
/-! ### while -/
/-- the turn, once the test has come out true -/
def aTurn (Pv : St → Hp → Prop) (μ : St → Hp → Nat) (m : Nat) (tb : TS) (rt : VK) (nx : St → Hp → Prop) (σ : St) (H : Hp) : Prop :=
  ∃ N : St → Hp → Prop, (∀ σ' H', N σ' H' → ∃ m', m' < m ∧ (Pv σ' H' ∧ μ σ' H' = m')) ∧ tb ⟨N, rt, nx, N⟩ σ H
theorem w_turn {Pv : St → Hp → Prop} {μ : St → Hp → Nat} {m : Nat} (k : tb ⟨fun σ' H' => Pv σ' H' ∧ μ σ' H' < m, rt, nx, fun σ' H' => Pv σ' H' ∧ μ σ' H' < m⟩ σ H) : aTurn Pv μ m tb rt nx σ H :=
  ⟨_, fun σ' H' q => ⟨_, q.2, q.1, rfl⟩, k⟩
theorem w_while {c : TT} (Pv : St → Hp → Prop) (μ : St → Hp → Nat) (h0 : Pv σ H) (hs : ∀ σ' H', Pv σ' H' → c σ' H' fun b H1 => if b = true then aTurn Pv μ (μ σ' H') tb rt nx σ' H1 else nx σ' H1) : tWhile c tb ⟨nx, rt, bk, ct⟩ σ H :=
  ⟨fun m σ H => Pv σ H ∧ μ σ H = m, ⟨_, h0, rfl⟩, fun m σ' H' hw => by
    obtain ⟨p, rfl⟩ := hw
    exact hs σ' H' p⟩
end

/-! ### list comprehensions -/
/-- behind a turn: the list at D -/
def cNx (H0 : Hp) (D : Addr) (acc : List V) : Hp → Prop := fun H => Kp [] H0 H ∧ H D = some (.lst acc)
/-- the kept item y goes to the list at D -/
def aKeep (H0 : Hp) (D : Addr) (acc' : List V) : VK := fun y H4 => ∃ acc, H4 D = some (.lst acc) ∧ acc.length < sizeLine ∧ cNx H0 D acc' (upd H4 D (.lst (acc ++ [y])))
section
variable {σ : St} {H : Hp} {g : TG} {tt : TT} {te : TE} {tl : TE} {ta : TA} {K : PySem.W.Frag} {vs : List Nat} {Q : VK}
def aComp (J : It) (g : TG) (tt : TT) (te : TE) (vs : List Nat) (σ : St) (Q : VK) (H1 : Hp) : Prop := ∀ D, H1 D = none → ∃ W : Nat → Nat → Hp → Prop, (∃ m, W 0 m (upd H1 D (.lst []))) ∧ ∀ i m H, W i m H →
  (J.stop i H ∧ Q (.ref D) H) ∨ (J.go i H ∧ ∃ Nx : Hp → Prop, (∀ H', Nx H' → ∃ m', m' < m ∧ W (i + 1) m' H') ∧ ∀ x H', J.yld i H x H' → g x (wipe σ vs) H' fun σ2 H2 => wipe σ2 vs = wipe σ vs ∧ tt σ2 H2 fun b H3 =>
    if b = true then te σ2 H3 fun y H4 => ∃ acc, H4 D = some (.lst acc) ∧ acc.length < sizeLine ∧ Nx (upd H4 D (.lst (acc ++ [y]))) else Nx H3)
def aCList (K : PySem.W.Frag) (g : TG) (tt : TT) (te : TE) (vs : List Nat) (σ : St) (Q : VK) (x : V) (H1 : Hp) : Prop := ∃ a, x = .ref a ∧ (∃ xs, SqL K H1 a xs) ∧ aComp (Itl K a) g tt te vs σ Q H1
def aCR1 (g : TG) (tt : TT) (te : TE) (vs : List Nat) (σ : St) (Q : VK) (us : List V) (H1 : Hp) : Prop := ∃ j : Int, us = [.int j] ∧ -(2 ^ 62) ≤ j ∧ j < 2 ^ 62 ∧ aComp (Itr 0 j.toNat) g tt te vs σ Q H1
def aCR2 (g : TG) (tt : TT) (te : TE) (vs : List Nat) (σ : St) (Q : VK) (us : List V) (H1 : Hp) : Prop := ∃ i j : Int, us = [.int i, .int j] ∧ (-(2 ^ 62) ≤ i ∧ i < 2 ^ 62 ∧ -(2 ^ 62) ≤ j ∧ j < 2 ^ 62) ∧ aComp (Itr i (j - i).toNat) g tt te vs σ Q H1
def aCEnum (K : PySem.W.Frag) (g : TG) (tt : TT) (te : TE) (vs : List Nat) (σ : St) (Q : VK) (us : List V) (H1 : Hp) : Prop := ∃ a xs, us = [.ref a] ∧ SqL K H1 a xs ∧ aComp (Ite K a) g tt te vs σ Q H1
theorem s_lcL (k : tl σ H fun x H1 => aCList K g tt te vs σ Q x H1) : tLc (iList K tl) g tt te vs σ H Q := k
theorem s_lcR1 (k : ta σ H fun us H1 => aCR1 g tt te vs σ Q us H1) : tLc (iRng1 ta) g tt te vs σ H Q := k
theorem s_lcR2 (k : ta σ H fun us H1 => aCR2 g tt te vs σ Q us H1) : tLc (iRng2 ta) g tt te vs σ H Q := k
theorem s_lcE (k : ta σ H fun us H1 => aCEnum K g tt te vs σ Q us H1) : tLc (iEnum K ta) g tt te vs σ H Q := k
theorem fm_snoc {α β : Type} (ψ : α → Option β) {us : List α} {i : Nat} {u : α} (h : us[i]? = some u) : (us.take (i + 1)).filterMap ψ = (us.take i).filterMap ψ ++ (ψ u).toList := by
  have e : us.take (i + 1) = us.take i ++ [u] := by
    rw [List.take_succ, h]; rfl
  rw [e, List.filterMap_append]
  cases q : ψ u <;> simp [List.filterMap_cons, q]
theorem fm_len {α β : Type} (ψ : α → Option β) (us : List α) : (us.filterMap ψ).length ≤ us.length := List.length_filterMap_le _ _
variable {α β : Type} {f : α → V} {f' : β → V}
theorem w_lcM (ψ : α → Option β) {us : List α} {p : Addr} (hp : H p = some (.lst (us.map f))) (hz : us.length < sizeLine)
    (hs : ∀ (D : Addr) (i : Nat) (u : α) (acc : List V) (H' : Hp), H D = none → us[i]? = some u → Kp [] H H' → H' D = some (.lst acc) → acc.length < sizeLine → g (f u) (wipe σ vs) H' fun σ2 H2 => wipe σ2 vs = wipe σ vs ∧ tt σ2 H2 fun b H3 =>
      if b = true then te σ2 H3 (aKeep H D (acc ++ (ψ u).toList.map f')) else cNx H D (acc ++ (ψ u).toList.map f') H3)
    (k : ∀ D H', H D = none → Kp [] H H' → H' D = some (.lst ((us.filterMap ψ).map f')) → Q (.ref D) H') : aCList K g tt te vs σ Q (.ref p) H :=
  ⟨p, rfl, ⟨_, SqL.of hp⟩, fun D hD => lc_list (K := K) (a := p) (xs := us.map f) (fun i => cNx H D (((us.take i).filterMap ψ).map f')) ⟨Kp.refl.new hD, upd_same⟩
    (fun i H' hi q => SqL.of (q.1.at0 hp)) (fun i x H' hx q => by
      rw [List.getElem?_map] at hx
      cases e : us[i]? with
      | none => rw [e] at hx; cases hx
      | some u =>
        rw [e] at hx
        cases hx
        have hl : i < us.length := (List.getElem?_eq_some_iff.mp e).1
        have hlen : (((us.take i).filterMap ψ).map f').length < sizeLine := by
          have := fm_len ψ (us.take i)
          rw [List.length_take] at this
          rw [List.length_map]
          omega
        have h := hs D i u _ H' hD e q.1 q.2 hlen
        have e2 : ((us.take (i + 1)).filterMap ψ).map f' = ((us.take i).filterMap ψ).map f' ++ (ψ u).toList.map f' := by rw [fm_snoc ψ e, List.map_append]
        rw [e2]
        exact h) (fun H' q => k D H' hD q.1 (by
          have := q.2
          rw [List.length_map, List.take_length] at this
          exact this))⟩
theorem w_lcR (ψ : Nat → Option β) {lo n : Int} (hl1 : -(2 ^ 62) ≤ lo) (hl2 : lo < 2 ^ 62) (hn1 : -(2 ^ 62) ≤ n) (hn2 : n < 2 ^ 62) (hz : (n - lo).toNat < sizeLine)
    (hs : ∀ (D : Addr) (i : Nat) (acc : List V) (H' : Hp), H D = none → lo + (i : Int) < n → Kp [] H H' → H' D = some (.lst acc) → acc.length < sizeLine → g (.int (lo + (i : Int))) (wipe σ vs) H' fun σ2 H2 => wipe σ2 vs = wipe σ vs ∧ tt σ2 H2 fun b H3 =>
      if b = true then te σ2 H3 (aKeep H D (acc ++ (ψ i).toList.map f')) else cNx H D (acc ++ (ψ i).toList.map f') H3)
    (k : ∀ D H', H D = none → Kp [] H H' → H' D = some (.lst (((List.range (n - lo).toNat).filterMap ψ).map f')) → Q (.ref D) H') : aComp (Itr lo (n - lo).toNat) g tt te vs σ Q H :=
  fun D hD => lc_range (lo := lo) (n := (n - lo).toNat) (fun i => cNx H D (((List.range i).filterMap ψ).map f')) ⟨Kp.refl.new hD, upd_same⟩ (fun i H' hi q => by
      have hlen : (((List.range i).filterMap ψ).map f').length < sizeLine := by
        have := fm_len ψ (List.range i)
        rw [List.length_range] at this
        rw [List.length_map]
        omega
      have h := hs D i _ H' hD (by omega) q.1 q.2 hlen
      have e2 : ((List.range (i + 1)).filterMap ψ).map f' = ((List.range i).filterMap ψ).map f' ++ (ψ i).toList.map f' := by
        rw [List.range_succ, List.filterMap_append, List.map_append]
        cases q : ψ i <;> simp [List.filterMap_cons, q]
      rw [e2]
      exact h) (fun H' q => k D H' hD q.1 q.2)
theorem w_lcR1 (ψ : Nat → Option β) {n : Int} (hn1 : -(2 ^ 62) ≤ n) (hn2 : n < 2 ^ 62) (hz : n.toNat < sizeLine)
    (hs : ∀ (D : Addr) (i : Nat) (acc : List V) (H' : Hp), H D = none → (i : Int) < n → Kp [] H H' → H' D = some (.lst acc) → acc.length < sizeLine → g (.int (i : Int)) (wipe σ vs) H' fun σ2 H2 => wipe σ2 vs = wipe σ vs ∧ tt σ2 H2 fun b H3 =>
      if b = true then te σ2 H3 (aKeep H D (acc ++ (ψ i).toList.map f')) else cNx H D (acc ++ (ψ i).toList.map f') H3)
    (k : ∀ D H', H D = none → Kp [] H H' → H' D = some (.lst (((List.range n.toNat).filterMap ψ).map f')) → Q (.ref D) H') : aCR1 g tt te vs σ Q [.int n] H := by
  have q := w_lcR (H := H) (g := g) (tt := tt) (te := te) (σ := σ) (vs := vs) (Q := Q) (f' := f') ψ (lo := 0) (n := n) (by omega) (by omega) hn1 hn2 (by simpa using hz) (fun D i acc H' h1 h2 h3 h4 h5 => by
    rw [Int.zero_add]
    exact hs D i acc H' h1 (by omega) h3 h4 h5) (by simpa using k)
  exact ⟨n, rfl, hn1, hn2, by simpa using q⟩
theorem w_lcR2 (ψ : Nat → Option β) {lo n : Int} (hl1 : -(2 ^ 62) ≤ lo) (hl2 : lo < 2 ^ 62) (hn1 : -(2 ^ 62) ≤ n) (hn2 : n < 2 ^ 62) (hz : (n - lo).toNat < sizeLine)
    (hs : ∀ (D : Addr) (i : Nat) (acc : List V) (H' : Hp), H D = none → lo + (i : Int) < n → Kp [] H H' → H' D = some (.lst acc) → acc.length < sizeLine → g (.int (lo + (i : Int))) (wipe σ vs) H' fun σ2 H2 => wipe σ2 vs = wipe σ vs ∧ tt σ2 H2 fun b H3 =>
      if b = true then te σ2 H3 (aKeep H D (acc ++ (ψ i).toList.map f')) else cNx H D (acc ++ (ψ i).toList.map f') H3)
    (k : ∀ D H', H D = none → Kp [] H H' → H' D = some (.lst (((List.range (n - lo).toNat).filterMap ψ).map f')) → Q (.ref D) H') : aCR2 g tt te vs σ Q [.int lo, .int n] H :=
  ⟨lo, n, rfl, ⟨hl1, hl2, hn1, hn2⟩, w_lcR ψ hl1 hl2 hn1 hn2 hz hs k⟩
/-- the item is kept -/
theorem w_keep {D : Addr} {acc : List V} {o : Option β} {b : β} {H4 : Hp} (hk : Kp [] H H4) (hD : H4 D = some (.lst acc)) (hl : acc.length < sizeLine) (hn : H D = none) (e : o = some b) : aKeep H D (acc ++ o.toList.map f') (f' b) H4 := by
  subst e
  exact ⟨acc, hD, hl, hk.own hn, upd_same⟩
theorem w_drop {D : Addr} {acc : List V} {o : Option β} {H4 : Hp} (hk : Kp [] H H4) (hD : H4 D = some (.lst acc)) (e : o = none) : cNx H D (acc ++ o.toList.map f') H4 := by
  subst e
  exact ⟨hk, by simpa using hD⟩
/-- behind a turn of a comprehension whose turns change other things, too -/
def gNx (ms : List Addr) (H0 : Hp) (D : Addr) (J : Nat → List V → Hp → Prop) (i : Nat) (H : Hp) : Prop := ∃ acc : List V, acc.length ≤ i ∧ Kp ms H0 H ∧ H D = some (.lst acc) ∧ J i acc H
def gKeep (ms : List Addr) (H0 : Hp) (D : Addr) (J : Nat → List V → Hp → Prop) (i : Nat) : VK := fun y H4 => ∃ acc, H4 D = some (.lst acc) ∧ acc.length < sizeLine ∧ gNx ms H0 D J i (upd H4 D (.lst (acc ++ [y])))
theorem w_lcRG {lo n : Int} (ms : List Addr) (J : Addr → Nat → List V → Hp → Prop)
    (h0 : ∀ D, H D = none → J D 0 [] (upd H D (.lst [])))
    (hs : ∀ (D : Addr) (i : Nat) (acc : List V) (H' : Hp), H D = none → lo + (i : Int) < n → acc.length ≤ i → Kp ms H H' → H' D = some (.lst acc) → J D i acc H' → g (.int (lo + (i : Int))) (wipe σ vs) H' fun σ2 H2 => wipe σ2 vs = wipe σ vs ∧ tt σ2 H2 fun b H3 =>
      if b = true then te σ2 H3 (gKeep ms H D (J D) (i + 1)) else gNx ms H D (J D) (i + 1) H3)
    (k : ∀ D acc H', H D = none → acc.length ≤ (n - lo).toNat → Kp ms H H' → H' D = some (.lst acc) → J D (n - lo).toNat acc H' → Q (.ref D) H') : aComp (Itr lo (n - lo).toNat) g tt te vs σ Q H :=
  fun D hD => lc_range (lo := lo) (n := (n - lo).toNat) (fun i => gNx ms H D (J D) i) ⟨[], Nat.zero_le _, Kp.refl.new hD, upd_same, h0 D hD⟩ (fun i H' hi q => by
      obtain ⟨acc, q1, q2, q3, q4⟩ := q
      exact hs D i acc H' hD (by omega) q1 q2 q3 q4) (fun H' q => by
      obtain ⟨acc, q1, q2, q3, q4⟩ := q
      exact k D acc H' hD q1 q2 q3 q4)
theorem w_lcRG2 {lo n : Int} (ms : List Addr) (J : Addr → Nat → List V → Hp → Prop) (hl1 : -(2 ^ 62) ≤ lo) (hl2 : lo < 2 ^ 62) (hn1 : -(2 ^ 62) ≤ n) (hn2 : n < 2 ^ 62)
    (h0 : ∀ D, H D = none → J D 0 [] (upd H D (.lst [])))
    (hs : ∀ (D : Addr) (i : Nat) (acc : List V) (H' : Hp), H D = none → lo + (i : Int) < n → acc.length ≤ i → Kp ms H H' → H' D = some (.lst acc) → J D i acc H' → g (.int (lo + (i : Int))) (wipe σ vs) H' fun σ2 H2 => wipe σ2 vs = wipe σ vs ∧ tt σ2 H2 fun b H3 =>
      if b = true then te σ2 H3 (gKeep ms H D (J D) (i + 1)) else gNx ms H D (J D) (i + 1) H3)
    (k : ∀ D acc H', H D = none → acc.length ≤ (n - lo).toNat → Kp ms H H' → H' D = some (.lst acc) → J D (n - lo).toNat acc H' → Q (.ref D) H') : aCR2 g tt te vs σ Q [.int lo, .int n] H :=
  ⟨lo, n, rfl, ⟨hl1, hl2, hn1, hn2⟩, w_lcRG ms J h0 hs k⟩
theorem w_lcRG1 {n : Int} (ms : List Addr) (J : Addr → Nat → List V → Hp → Prop) (hn1 : -(2 ^ 62) ≤ n) (hn2 : n < 2 ^ 62)
    (h0 : ∀ D, H D = none → J D 0 [] (upd H D (.lst [])))
    (hs : ∀ (D : Addr) (i : Nat) (acc : List V) (H' : Hp), H D = none → (i : Int) < n → acc.length ≤ i → Kp ms H H' → H' D = some (.lst acc) → J D i acc H' → g (.int (i : Int)) (wipe σ vs) H' fun σ2 H2 => wipe σ2 vs = wipe σ vs ∧ tt σ2 H2 fun b H3 =>
      if b = true then te σ2 H3 (gKeep ms H D (J D) (i + 1)) else gNx ms H D (J D) (i + 1) H3)
    (k : ∀ D acc H', H D = none → acc.length ≤ n.toNat → Kp ms H H' → H' D = some (.lst acc) → J D n.toNat acc H' → Q (.ref D) H') : aCR1 g tt te vs σ Q [.int n] H := by
  have q := w_lcRG (H := H) (g := g) (tt := tt) (te := te) (σ := σ) (vs := vs) (Q := Q) (lo := 0) (n := n) ms J h0 (fun D i acc H' h1 h2 h3 h4 h5 h6 => by
    rw [Int.zero_add]
    exact hs D i acc H' h1 (by omega) h3 h4 h5 h6) (by simpa using k)
  exact ⟨n, rfl, hn1, hn2, by simpa using q⟩
theorem w_keepG {ms : List Addr} {J : Nat → List V → Hp → Prop} {D : Addr} {acc : List V} {i : Nat} {y : V} {H4 : Hp} (hk : Kp ms H H4) (hD : H4 D = some (.lst acc)) (hl : acc.length ≤ i) (hz : i < sizeLine) (hn : H D = none) (j : J (i + 1) (acc ++ [y]) (upd H4 D (.lst (acc ++ [y])))) : gKeep ms H D J (i + 1) y H4 :=
  ⟨acc, hD, by omega, acc ++ [y], by rw [List.length_append]; simpa using hl, hk.own hn, upd_same, j⟩
theorem w_dropG {ms : List Addr} {J : Nat → List V → Hp → Prop} {D : Addr} {acc : List V} {i : Nat} {H4 : Hp} (hk : Kp ms H H4) (hD : H4 D = some (.lst acc)) (hl : acc.length ≤ i) (j : J (i + 1) acc H4) : gNx ms H D J (i + 1) H4 :=
  ⟨acc, by omega, hk, hD, j⟩
theorem s_yes {Q : Bool → Hp → Prop} (k : Q true H) : tYes σ H Q := k
theorem fm_some {h : α → β} {us : List α} : us.filterMap (fun u => some (h u)) = us.map h := by
  rw [← List.filterMap_eq_map]; rfl
end

/-! ### try, except -/
section
variable {K : PySem.W.Frag} {c cls : Value} {d : Option Addr} {i : Nat} {ts : Addr → Value → Option Addr → TS} {Wout : WX} {nx bk ct : St → Hp → Prop} {rt : VK} {σ : St} {H : Hp}
theorem w_asT (e : PySem.W.exmOne K cls c = some true) (k : ∀ a, H a = none → ts a cls d ⟨fun σ' H' => nx (σ'.set i none) H', rt, fun σ' H' => bk (σ'.set i none) H', fun σ' H' => ct (σ'.set i none) H'⟩ (σ.set i (some (.ref a))) H) : wAs K c i ts Wout ⟨nx, rt, bk, ct⟩ cls d σ H :=
  ⟨true, e, fun _ => k, fun q => Bool.noConfusion q⟩
theorem w_asF {D : Ends} (e : PySem.W.exmOne K cls c = some false) (k : Wout cls d σ H) : wAs K c i ts Wout D cls d σ H :=
  ⟨false, e, fun q => Bool.noConfusion q, fun _ => k⟩
/-- e.f, e the caught exception at a, of the class cls, its dict d -/
def tXfG (K : PySem.W.Frag) (a : Addr) (cls : Value) (d : Option Addr) (f : Str) (te : TE) : TE := fun σ H Q => te σ H fun x H1 => x = .ref a ∧ ∃ (C dd : Addr) (fs : List (Str × V)) (v : V), cls = .ref C ∧ d = some dd ∧ XfC K C ∧ PySem.W.findIn K (.ref C) f = some none ∧ H1 dd = some (.xd fs) ∧ fs.lookup f = some v ∧ Q v H1
theorem pe_xfG {X : Cx} {a : Addr} {oe : Obj} {cls : Value} {d : Option Addr} {pn : List (Addr × Obj)} {e : Expr} {te : TE} {pos : Pos} {n : Str}
    (hz : Zc cls d oe) (hf : ∃ vs, oe.data = .fields vs) (he : PE (X.suite a ((a, oe) :: pn)) e te) (hb : attributeBase e n X.env (eval e X.env) = eval e X.env := by rfl) :
    PE (X.suite a ((a, oe) :: pn)) (.Attribute e n pos) (tXfG X.K a cls d n te) := by
  refine ⟨fun pins s σ H Q I h => ?_⟩
  refine attr_of hb (thn (he.run pins s σ H _ I h) fun u s1 hh => ?_)
  obtain ⟨x, H1, I1, rx, ex, C, dd, fs, v, ec, ed, T, hno, ea, l, q⟩ := hh
  subst ex
  obtain rfl : u = Value.ref a := rx
  subst ec
  subst ed
  obtain ⟨ha, _⟩ := I1.pin (a, oe) (List.mem_append_left _ List.mem_cons_self)
  obtain ⟨vs, hd⟩ := hf
  have hx : ObjOk X.prog X.w H1 s1.heap dd (.xd fs) := I1.hok dd _ ea
  obtain ⟨mA, hns, hr⟩ := hx
  obtain ⟨od, ho, hl⟩ := lookIn_ns hns
  obtain ⟨u, hu, ru⟩ := RelO.some_of (v := v) (o := mA n) (by rw [← l]; exact hr n)
  have J : PySem.W.InstAt s1.heap a oe C (some od) := ⟨ha, hz.1, by unfold PySem.W.notCls; rw [hd] <;> rfl, by rw [hz.2]; exact ho⟩
  exact HandSPX.exc_get I1.kIn J T.ga T.gg T.exC (PySem.W.findObj_own T.hdC hno rfl (by rw [hl, hu])) (handed_of ru) ⟨v, H1, I1.tok _, ru, q⟩
/-- isinstance(e, C) of the caught exception -/
def rIsG (K : PySem.W.Frag) (a : Addr) (cls : Value) (d : Option Addr) : List V → Hp → VK → Prop := fun xs H Q => ∃ (C dd : Addr) (fs : List (Str × V)) (c : V) (cv : Value) (b : Bool), xs = [.ref a, c] ∧ cls = .ref C ∧ d = some dd ∧ H dd = some (.xd fs) ∧ ExcC K C ∧ ClsV c cv ∧ PySem.W.kitOne K (.ref C) cv = some b ∧ Q (.bl b) H
theorem call_isG {X : Cx} {a : Addr} {oe : Obj} {cls : Value} {d : Option Addr} {pn : List (Addr × Obj)} (hz : Zc cls d oe) (hf : ∃ vs, oe.data = .fields vs) : CallR (X.suite a ((a, oe) :: pn)) (.builtin "isinstance") (rIsG X.K a cls d) := by
  intro pins s σ H xs us Q I r h
  obtain ⟨C, dd, fs, c, cv, b, rfl, rfl, rfl, hdd, E, hcv, e, q⟩ := h
  obtain ⟨u1, u2, rfl, r1, r2⟩ := vals2 r
  have e2 := hcv.eq r2
  subst e2
  cases r1
  obtain ⟨ha, _⟩ := I.pin (a, oe) (List.mem_append_left _ List.mem_cons_self)
  obtain ⟨vs, hd⟩ := hf
  have hx : ObjOk X.prog X.w H s.heap dd (.xd fs) := I.hok dd _ hdd
  obtain ⟨mA, hns, hr⟩ := hx
  obtain ⟨od, ho, hl⟩ := lookIn_ns hns
  have J : PySem.W.InstAt s.heap a oe C (some od) := ⟨ha, hz.1, by unfold PySem.W.notCls; rw [hd] <;> rfl, by rw [hz.2]; exact ho⟩
  have hcl : (PySem.W.clsIn X.K C).isSome = true := by
    obtain ⟨cd, hc, _⟩ := PySem.W.any_some E.hd
    rw [hc]; rfl
  exact PySem.W.kia_one (PySem.W.kitx_exc hcl E.hg E.hk E.hs E.ha E.hn E.ht E.hm) I.kIn J e (fun z => nomatch z) fun tk => ⟨.bl b, H, I.kept (t' := tk) fun _ _ z => z, rfl, q⟩
end
/-- in the suite: the exception that is handled has no context -/
theorem hot_suite {X : Cx} {a : Addr} {oe : Obj} {cls : Value} {d : Option Addr} {pn : List (Addr × Obj)} (hz : L2N.Zn cls d oe) (hf : ∃ vs, oe.data = .fields vs) : L2H.HotC (X.suite a ((a, oe) :: pn)) := by
  obtain ⟨vs, hd⟩ := hf
  exact ⟨(a, oe), ⟨rfl, vs, hd, hz.2.2 vs hd⟩, List.mem_cons_self⟩
end Lk
namespace Lk
open PySem PySem.Spec PyProof.Rows L2

/-! ### a op b op c op d -/
def tChain3 (r r' r'' : R2) (ta tb tc td : TE) : TE := fun σ H Q => ta σ H fun x H1 => tb σ H1 fun y H2 => r x y H2 fun z H3 => aB z H3 fun k H3 =>
  if k = true then tc σ H3 fun w' H4 => r' y w' H4 fun z H5 => aB z H5 fun k H5 => if k = true then td σ H5 fun v' H6 => r'' w' v' H6 Q else Q (.bl false) H5 else Q (.bl false) H3
theorem s_chain3 {σ : St} {H : Hp} {Q : VK} {r r' r'' : R2} {ta tb tc td : TE} (k : ta σ H fun x H1 => tb σ H1 fun y H2 => r x y H2 fun z H3 => aB z H3 fun k H3 =>
  if k = true then tc σ H3 fun w' H4 => r' y w' H4 fun z H5 => aB z H5 fun k H5 => if k = true then td σ H5 fun v' H6 => r'' w' v' H6 Q else Q (.bl false) H5 else Q (.bl false) H3) : tChain3 r r' r'' ta tb tc td σ H Q := k
theorem pt_chain3A {X : Cx} {op op' op'' : CmpOp} {r r' r'' : R2} {e1 e2 e3 e4 : Expr} {ta tb tc td : TE} {pos : Pos} (ho : OpR X (compareOp op) r) (ho' : OpR X (compareOp op') r') (ho'' : OpR X (compareOp op'') r'') (ha : PE X e1 ta) (hb : PE X e2 tb) (hc : PE X e3 tc) (hd : PE X e4 td)
    (hm : lastMarks [op, op', op''] [e2, e3, e4] = false := by with_unfolding_all rfl) : PT X (.Compare e1 [op, op', op''] [e2, e3, e4] pos) (cB (tChain3 r r' r'' ta tb tc td)) := by
  refine ⟨fun pins s σ H Q I h => ?_⟩
  refine isTrue_chain (thn (ha.run pins s σ H _ I h) fun v s1 ⟨x, H1, I1, r1, q1⟩ => test_link (thn (hb.run pins s1 σ H1 _ I1 q1) fun u s2 ⟨y, H2, I2, r2, q2⟩ =>
    thn (ho pins s2 σ H2 x y v u _ I2 r1 r2 q2) fun d s3 ⟨z, H3, I3, r3, k, e, q3⟩ => ?_)) hm
  subst e
  cases r3
  refine wpAny_truthy_bool ?_
  cases k with
  | false =>
    obtain ⟨k', e', q'⟩ := q3
    cases e'
    exact ite_ff ⟨H3, I3, q'⟩
  | true =>
    refine ite_tt (test_link (thn (hc.run pins s3 σ H3 _ I3 q3) fun w' s4 ⟨z', H4, I4, r4, q4⟩ => thn (ho' pins s4 σ H4 y z' u w' _ I4 r2 r4 q4) fun d' s5 ⟨z2, H5, I5, r5, k2, e2, q5⟩ => ?_))
    subst e2
    cases r5
    refine wpAny_truthy_bool ?_
    cases k2 with
    | false =>
      obtain ⟨k', e', q'⟩ := q5
      cases e'
      exact ite_ff ⟨H5, I5, q'⟩
    | true =>
      refine ite_tt (test_last (thn (hd.run pins s5 σ H5 _ I5 q5) fun w6 s6 ⟨z6, H6, I6, r6, q6⟩ => thn (ho'' pins s6 σ H6 z' z6 w' w6 _ I6 r4 r6 q6) fun d7 s7 ⟨z7, H7, I7, r7, k7, e7, q7⟩ => ?_))
      subst e7
      cases r7
      exact wpAny_truthy_bool ⟨H7, I7, q7⟩

theorem roomH_units {k : Nat} {A : Around} (r : L2H.RoomH k A) : A.units + 64 < cLine := by have := r.un; omega
theorem roomH_s {j k : Nat} {A A' : Around} (r : L2H.RoomH j A) (h : k ≤ j) (e1 : A'.depth = A.depth) (e2 : A'.units = A.units) : L2H.RoomH k A' :=
  ⟨by have := r.dp; omega, by have := r.un; omega⟩
/-! ### addresses -/
theorem ne_n {H : Hp} {a b : Addr} {o : HO} (h' : H b = none) (h : H a = some o) : a ≠ b := ne_of_none h h'
theorem ne_n' {H : Hp} {a b : Addr} {o : HO} (h' : H a = none) (h : H b = some o) : a ≠ b := Ne.symm (ne_of_none h h')
theorem upd_new {H : Hp} {p a : Addr} {o u : HO} (n : H p = none) (h : H a = some u) : upd H p o a = some u := upd_get (ne_of_none h n) h
/-- another kind of thing was at p -/
theorem upd_kind {H : Hp} {p a : Addr} {o u u' : HO} (hp : H p = some u') (h : H a = some u) (n : u ≠ u') : upd H p o a = some u := upd_get (ne_of h hp n) h
/-! ### members -/
section
variable {i : Int} {p : Addr} {H : Hp} {Q : VK} {us : List Int} {K : PySem.W.Frag}
theorem eqV_int (a b : Int) : eqV (.int a) (.int b) = decide (a = b) := by
  have : eqV (.int a) (.int b) = (a == b) := rfl
  rw [this]; rfl
theorem inV_int : ∀ us : List Int, inV (.int i) (us.map V.int) = decide (i ∈ us)
  | [] => by simp [inV]
  | u :: us => by
    have h := inV_int us
    unfold inV at h ⊢
    rw [List.map_cons, List.any_cons, h, eqV_int]
    by_cases z : u = i
    · simp [z]
    · have z2 : ¬ i = u := fun q => z q.symm
      simp [z, z2]
theorem flat_int : ∀ us : List Int, (us.map V.int).all flatV = true
  | [] => rfl
  | u :: us => by rw [List.map_cons, List.all_cons, flat_int us]; rfl
theorem w_inI (hp : H p = some (.lst (us.map V.int))) (k : Q (.bl (decide (i ∈ us))) H) : rIn K false (.int i) (.ref p) H Q :=
  ⟨p, _, rfl, .inl (SqL.of hp), rfl, flat_int us, by rw [inV_int]; exact k⟩
theorem w_notInI (hp : H p = some (.lst (us.map V.int))) (k : Q (.bl (!decide (i ∈ us))) H) : rIn K true (.int i) (.ref p) H Q :=
  ⟨p, _, rfl, .inl (SqL.of hp), rfl, flat_int us, by rw [inV_int]; exact k⟩
theorem w_eqLI' {ns ms : List Int} {q : Addr} (hp : H p = some (.lst (ns.map V.int))) (hq : H q = some (.lst (ms.map V.int))) (k : Q (.bl (decide (ns = ms))) H) : aEq K (.ref p) (.ref q) H Q := w_eqLI (SqL.of hp) (SqL.of hq) k
theorem w_eqLI0 {ns : List Int} {q : Addr} (hp : H p = some (.lst (ns.map V.int))) (hq : H q = some (.lst [])) (k : Q (.bl (decide (ns = []))) H) : aEq K (.ref p) (.ref q) H Q := w_eqLI (ms := []) (SqL.of hp) (SqL.of hq) k
theorem w_neLI' {ns ms : List Int} {q : Addr} (hp : H p = some (.lst (ns.map V.int))) (hq : H q = some (.lst (ms.map V.int))) (k : Q (.bl (!decide (ns = ms))) H) : aNe K (.ref p) (.ref q) H Q := w_neLI (SqL.of hp) (SqL.of hq) k
theorem w_neLI0 {ns : List Int} {q : Addr} (hp : H p = some (.lst (ns.map V.int))) (hq : H q = some (.lst [])) (k : Q (.bl (!decide (ns = []))) H) : aNe K (.ref p) (.ref q) H Q := w_neLI (ms := []) (SqL.of hp) (SqL.of hq) k
end
/-! ### raise -/
theorem s_mkx {C : Addr} {fs : List Str} {ta : TA} {σ : St} {H : Hp} {Q : XK} (k : ta σ H fun vs H1 => vs.length = fs.length ∧ ∀ d, H1 d = none → Q (.ref C) (some d) (upd H1 d (.xd (fs.zip vs)))) : tMkX C fs ta σ H Q := k
theorem w_and {A B : Prop} (a : A) (b : B) : A ∧ B := ⟨a, b⟩
theorem s_xf {K : PySem.W.Frag} {a : Addr} {cls : Value} {d : Option Addr} {f : Str} {te : TE} {σ : St} {H : Hp} {Q : VK} (k : te σ H fun x H1 => x = .ref a ∧ ∃ (C dd : Addr) (fs : List (Str × V)) (v : V), cls = .ref C ∧ d = some dd ∧ XfC K C ∧ PySem.W.findIn K (.ref C) f = some none ∧ H1 dd = some (.xd fs) ∧ fs.lookup f = some v ∧ Q v H1) : tXfG K a cls d f te σ H Q := k
/-- the exception's field -/
def aXf (K : PySem.W.Frag) (a : Addr) (C : Addr) (dd : Addr) (f : Str) (Q : VK) : VK := fun x H1 => x = .ref a ∧ ∃ (fs : List (Str × V)) (v : V), XfC K C ∧ PySem.W.findIn K (.ref C) f = some none ∧ H1 dd = some (.xd fs) ∧ fs.lookup f = some v ∧ Q v H1
theorem s_xfR {K : PySem.W.Frag} {a C dd : Addr} {f : Str} {te : TE} {σ : St} {H : Hp} {Q : VK} (k : te σ H (aXf K a C dd f Q)) : tXfG K a (.ref C) (some dd) f te σ H Q := by
  have e : (fun x H1 => x = V.ref a ∧ ∃ (C' dd' : Addr) (fs : List (Str × V)) (v : V), Value.ref C = .ref C' ∧ some dd = some dd' ∧ XfC K C' ∧ PySem.W.findIn K (.ref C') f = some none ∧ H1 dd' = some (.xd fs) ∧ fs.lookup f = some v ∧ Q v H1) = aXf K a C dd f Q := by
    funext x H1
    apply propext
    constructor
    · rintro ⟨e, C', dd', fs, v, h1, h2, h3⟩
      cases h1
      cases h2
      exact ⟨e, fs, v, h3⟩
    · rintro ⟨e, fs, v, h3⟩
      exact ⟨e, C, dd, fs, v, rfl, rfl, h3⟩
  unfold tXfG
  rw [e]
  exact k
theorem w_xf {K : PySem.W.Frag} {a C dd : Addr} {f : Str} {H : Hp} {Q : VK} {fs : List (Str × V)} {v : V} (hd : H dd = some (.xd fs)) (hC : XfC K C) (hn : PySem.W.findIn K (.ref C) f = some none) (hl : fs.lookup f = some v) (k : Q v H) : aXf K a C dd f Q (.ref a) H := ⟨rfl, fs, v, hC, hn, hd, hl, k⟩
theorem w_isG {K : PySem.W.Frag} {a C D dd : Addr} {H : Hp} {Q : VK} {fs : List (Str × V)} {b : Bool} (hd : H dd = some (.xd fs)) (E : ExcC K C) (e : PySem.W.kitOne K (.ref C) (.ref D) = some b) (k : Q (.bl b) H) : rIsG K a (.ref C) (some dd) [.ref a, .ref D] H Q :=
  ⟨C, dd, fs, _, _, b, rfl, rfl, rfl, hd, E, .own D, e, k⟩
theorem w_isGv {K : PySem.W.Frag} {a C dd : Addr} {n : String} {H : Hp} {Q : VK} {fs : List (Str × V)} {b : Bool} (hd : H dd = some (.xd fs)) (E : ExcC K C) (e : PySem.W.kitOne K (.ref C) (.type n) = some b) (k : Q (.bl b) H) : rIsG K a (.ref C) (some dd) [.ref a, .ty n] H Q :=
  ⟨C, dd, fs, _, _, b, rfl, rfl, rfl, hd, E, .ty n, e, k⟩

/-! ### lists of pairs of ints -/
/-- xs holds, one by one, tuples of the pairs ps -/
inductive Prs (H : Hp) : List V → List (Int × Int) → Prop
  | nil : Prs H [] []
  | cons {r xs i j ps} : H r = some (.tup [.int i, .int j]) → Prs H xs ps → Prs H (.ref r :: xs) ((i, j) :: ps)
theorem Prs.kp {H H' : Hp} {xs : List V} {ps : List (Int × Int)} (h : Prs H xs ps) (k : ∀ a o, (∃ i j, o = HO.tup [.int i, .int j]) → H a = some o → H' a = some o) : Prs H' xs ps := by
  induction h with
  | nil => exact .nil
  | cons h1 _ ih => exact .cons (k _ _ ⟨_, _, rfl⟩ h1) ih
theorem Prs.len {H : Hp} {xs : List V} {ps : List (Int × Int)} (h : Prs H xs ps) : xs.length = ps.length := by
  induction h with
  | nil => rfl
  | cons _ _ ih => simp [ih]
theorem Prs.snoc {H : Hp} {xs : List V} {ps : List (Int × Int)} {r : Addr} {i j : Int} (h : Prs H xs ps) (e : H r = some (.tup [.int i, .int j])) : Prs H (xs ++ [.ref r]) (ps ++ [(i, j)]) := by
  induction h with
  | nil => exact .cons e .nil
  | cons h1 _ ih => exact .cons h1 ih
theorem Prs.get {H : Hp} {xs : List V} {ps : List (Int × Int)} (h : Prs H xs ps) : ∀ {k : Nat} {p : Int × Int}, ps[k]? = some p → ∃ r, xs[k]? = some (.ref r) ∧ H r = some (.tup [.int p.1, .int p.2]) := by
  induction h with
  | nil => intro k p e; simp at e
  | cons h1 _ ih =>
    intro k p e
    cases k with
    | zero => simp at e; subst e; exact ⟨_, rfl, h1⟩
    | succ k => simpa using ih (by simpa using e)
theorem Prs.new {H : Hp} {xs : List V} {ps : List (Int × Int)} {p : Addr} {o : HO} (h : Prs H xs ps) (hp : H p = none) : Prs (upd H p o) xs ps := h.kp fun a u _ e => by rw [upd_ne (ne_of_none e hp)]; exact e
/-- a list is changed -/
theorem Prs.mut {H : Hp} {xs ys : List V} {ps : List (Int × Int)} {p : Addr} {o : HO} (h : Prs H xs ps) (hp : H p = some (.lst ys)) : Prs (upd H p o) xs ps := h.kp fun a u z e => by
  obtain ⟨i, j, rfl⟩ := z
  rw [upd_ne (ne_of e hp (by intro q; cases q))]; exact e
theorem Prs.kp0 {H H' : Hp} {xs : List V} {ps : List (Int × Int)} (h : Prs H xs ps) (k : Kp [] H H') : Prs H' xs ps := h.kp fun a o _ e => k a o e List.not_mem_nil
theorem Prs.nilI {H : Hp} : Prs H [] [] := .nil
end Lk
namespace Lk
open PySem PySem.W PySem.Spec PyProof.Rows L2
theorem noCX {P : Program} (w : World) (H : L2.Hp) (s : Shared) (e : Value) (s' : Shared) (h : L2N.CX P w [] H s (fun _ _ _ => False) e s') : False := by
  obtain ⟨_, _, _, _, _, _, _, _, _, _, _, _, z⟩ := h
  exact z
section
variable {P : Program} {w : World} {K : Frag} {mg : Str → Option Value} {base : Heap}
theorem FnOk_of {x qual : Str} {st : Stmt} {f : Addr} {fd : FuncData} {N ps : List Str} {k : Nat} {sp : L2.Sp} (F : L2.Fun K x qual st f fd) (S : L2.FnScope N ps (L2.defScope st)) (len : ∀ vs H Q E, sp vs H Q E → vs.length = ps.length)
    (hbody : ∀ (cdv : Value) (A : Around) (outer : List Env) (s : Shared) (H : L2.Hp) (vs : List L2.V) (Q : L2.VK) (E : L2.XK), L2.Room k (A.deeper (envOfC qual (L2.defScope st) s.heap.objs.size f cdv)) → L2N.Takes (L2.cxOf (L2N.CX P w) P w K mg base N qual (L2.defScope st) f cdv A outer s H E) (fun cls d _ H' => E cls d H') →
      PassesOwn (model P w) (L2.cxOf (L2N.CX P w) P w K mg base N qual (L2.defScope st) f cdv A outer s H E).A (L2.cxOf (L2N.CX P w) P w K mg base N qual (L2.defScope st) f cdv A outer s H E).env (L2.cxOf (L2N.CX P w) P w K mg base N qual (L2.defScope st) f cdv A outer s H E).xe → sp vs H Q E →
      ∃ t, L2.PSs (L2.cxOf (L2N.CX P w) P w K mg base N qual (L2.defScope st) f cdv A outer s H E) (L2.defBody st) t ∧ t { nx := fun _ H' => Q .non H', rt := Q } (L2.start N vs) H) : L2.FnOk P w K mg base (L2N.CX P w) (k + 1) f fd ps sp := by
  obtain ⟨oc, od, kV, doc, pm, an, cdv, ct, osl, rfl, lk, hcd⟩ := F.ex
  exact L2.fn_of lk hcd S len fun A outer s H vs Q E hr hsp => hbody cdv A outer s H vs Q E hr (L2N.takes_of rfl rfl rfl rfl) (passes_of rfl) hsp
end
/-- facts of all of a list's members -/
def AllIn (K : Frag) (C : Addr) : List Str → Prop
  | [] => True
  | f :: fs => findIn K (.ref C) f = some none ∧ AllIn K C fs
theorem all_in {K : Frag} {C : Addr} : ∀ {fs : List Str}, AllIn K C fs → ∀ f ∈ fs, findIn K (.ref C) f = some none
  | [], _ => fun f hf => by cases hf
  | g :: fs, h => fun f hf => by
    rcases List.mem_cons.mp hf with z | z
    · rw [z]; exact h.1
    · exact all_in h.2 f z
section
variable {K : Frag} {C D : Addr} {b : Bool}
/-- D is an exception class -/
structure DC (K : Frag) (D : Addr) : Prop where
  i : isClsIn K D = true
  t : typeIn K (.ref D) = some (.type "type")
  b : subIn K (.ref D) (.type "BaseException") = some true
theorem kit_cls' (d : DC K D) (s : subIn K (.ref C) (.ref D) = some b) : kitCls K (.ref C) (.ref D) = some b := by
  have h2' : (clsIn K D).isSome = true := d.i
  have e2 : ((clsIn K D).isSome && typeIn K (.ref D) == some (.type "type")) = true := by
    rw [h2', d.t] <;> rfl
  show (if ((clsIn K D).isSome && typeIn K (.ref D) == some (.type "type")) = true then subIn K (.ref C) (.ref D) else none) = some b
  rw [if_pos e2]
  exact s
theorem kit_mk (d : DC K D) (r : subIn K (.ref C) (.ref C) = some true) (s : subIn K (.ref C) (.ref D) = some b) : kitOne K (.ref C) (.ref D) = some b ∧ exmOne K (.ref C) (.ref D) = some b := by
  have k := kit_cls' d s
  refine ⟨?_, ?_⟩
  · unfold kitOne
    by_cases z : C = D
    · subst z
      rw [r] at s
      rw [← s]
      rw [if_pos (by simp)]
    · rw [if_neg (by simp [z])]
      exact k
  · unfold exmOne
    rw [if_pos (by rw [d.b] <;> rfl)]
    exact k
theorem kit_val (s : subIn K (.ref C) (.type "ValueError") = some true) : kitOne K (.ref C) (.type "ValueError") = some true := by
  have e : kitOne K (.ref C) (.type "ValueError") = if kitMeta "ValueError" = true then subIn K (.ref C) (.type "ValueError") else none := rfl
  rw [e, if_pos (by decide +kernel)]
  exact s
/-- what an own exception's class says -/
theorem exc_ef (hg : findIn K (.ref C) "__getattribute__" = some (some (.builtin "BaseException.__getattribute__"))) (hk : findIn K (.ref C) "__getattr__" = some none) (hs : subIn K (.ref C) (.type "BaseException") = some true) (hd : hasDictIn K C = true)
    (ha : findIn K (.ref C) "__class__" = some (some (.builtin "object.__class__"))) (hn : specialIn K (.builtin "object.__class__") "__get__" = some (some (.builtin "getset_descriptor.__get__"))) (ht : takesIn K (.builtin "object.__class__") = some true) (hm : mroIn K C (.type "object") = some true) : L2.ExcC K C ∧ L2.XfC K C :=
  ⟨⟨hg, hk, hs, hd, ha, hn, ht, hm⟩, ⟨hg, hk, hs, hd⟩⟩
theorem nm_mk {h : Heap} {mg : Str → Option Value} {x : Str} {st : Stmt} {f : Addr} {oc : Value} {od an : Option Addr} {osl : Array (Option Value)} {kV doc pm cdv ct : Value} (X : K.In h) (G : h.Ns mainGlobals mg) (a : nsIn K mainGlobals x = some (some (.ref f)))
    (l : K.lookup f = some ⟨oc, od, .func (fnOf x x (L2.defArgs st) (L2.defBody st) (L2.defScope st) .none kV doc pm an cdv ct), osl⟩) (c : codeIn K cdv x = true) (k : keepIn K (.ref f) = true) :
    Nm K mg x f ∧ L2.Fun K x x st f (fnOf x x (L2.defArgs st) (L2.defBody st) (L2.defScope st) .none kV doc pm an cdv ct) := ⟨⟨mg_of X G a, k⟩, L2.fun_mk l c k⟩
end
end Lk
namespace LkX
open PySem PySem.W PySem.Calls PyProof.Rows PySem.HandSPX
theorem exc_mk {prog : Program} {K : Frag} {C fI : Addr} {fs : List Str} {st : Stmt} {qual : Str} {nm q : Str} {N : Addr} {bs bm : List Value} {sn : List Str} {sub : List Value} {ab : Bool} {col : Option Bool} {dd : Option Addr} {k0 k1 k2 k3 k5 : Option Value}
    {oc : Value} {od : Option Addr} {doc pm : Value} {an : Option Addr} {cda : Addr} {ct : Value} {cc : Addr} {osl : Array (Option Value)} {ccl : Value} {cdd : Option Addr} {cvs : Array Value} {ccs : Array (Option Value)} {file : Str} {tf : Tok} {cl : Value} {cld : Option Addr} {csl : Array (Option Value)} {ar : Arg}
    (iC : findIn K (.ref C) "__init__" = some (some (.ref fI)))
    (xL : K.lookup C = some (excClassObj nm q C N bs bm true sn sub ab col dd k0 k1 k2 k3 k5 "ValueError.__new__"))
    (l : K.lookup fI = some ⟨oc, od, .func (ksFn "__init__" qual (L2.defArgs st) (L2.defBody st) (L2.defScope st) .none .none doc pm an (.ref cda) ct cc), osl⟩) (c : codeIn K (.ref cda) qual = true)
    (l2 : K.lookup cda = some ⟨ccl, cdd, .fields cvs, ccs⟩) (l3 : K.lookup cc = some ⟨cl, cld, .cell (some (.ref C)), csl⟩)
    (sa : findIn K (.ref C) "__setattr__" = some (some (.builtin "object.__setattr__"))) (tI : typeIn K (.ref fI) = some (.type "function")) (kC : keepIn K (.ref C) = true) (exC : subIn K (.ref C) (.type "BaseException") = some true)
    (tyC : typeIn K (.ref C) = some (.type "type")) (vE : subIn K (.ref C) (.type "ValueError") = some true) (op : nsIn K cStatics "thirdparty.any" = some none) (gs : nsIn K mainGlobals "super" = some none)
    (su : ks_superIn K C C "__init__" = some (some (.builtin "ValueError.__init__"))) (bmv : refsVE bm = true) (noN : ∀ f ∈ fs, findIn K (.ref C) f = some none)
    (v2 : cvs[2]? = some (.str file tf)) (fil : ((prog.main.file : Str) == file) = true) (ib : InitBody fs (L2.defBody st)) (hd : ((L2.defArgs st).posonlyargs ++ (L2.defArgs st).args).head? = some ar) (har : ar.arg = "self")
    (s0 : (prog.main.scope.names.lookup ("super" : Str)).isSome = false) (s1 : (L2.defScope st).names.lookup ("super" : Str) = some .globalImplicit) (s2 : (L2.defScope st).names.lookup ("__class__" : Str) = some .free) (s3 : ∀ x ∈ (L2.defScope st).names, x.2 ≠ .cell)
    (s4 : ∀ f ∈ ("self" : Str) :: fs, (L2.defScope st).names.lookup f = some .local) (s5 : (L2.defScope st).isCoroutine = false) (s6 : (L2.defScope st).isGenerator = false) (s7 : (L2.defScope st).kind = .function)
    (ba : ∀ us : List Value, us.length = (("self" : Str) :: fs).length → bindArgs (ksFn "__init__" qual (L2.defArgs st) (L2.defBody st) (L2.defScope st) .none .none doc pm an (.ref cda) ct cc) ⟨us, []⟩ = pure ((("self" : Str) :: fs).zip us))
    (nd : (("self" : Str) :: fs).Nodup) (nb : ∀ f ∈ ("self" : Str) :: fs, (f == ("__debug__" : Str)) = false) (few : fs.length ≤ 100) : ExcTxt prog K C fI fs where
  cls := ⟨nm, q, N, bs, bm, sn, sub, ab, col, dd, k0, k1, k2, k3, k5, xL, bmv⟩
  sa := sa
  noN := noN
  iC := iC
  tI := tI
  kC := kC
  exC := exC
  tyC := tyC
  vE := vE
  su := su
  op := op
  gs := gs
  fn := ⟨qual, _, _, _, oc, od, doc, pm, an, cda, ct, cc, osl, ccl, cdd, cvs, ccs, file, tf, cl, cld, csl, ar, l, c, l2, v2, fil, l3, ib, hd, har, s0, s1, s2, s3, s4, s5, s6, s7, ba⟩
  nd := nd
  nb := nb
  few := few
end LkX
namespace Lk
open PySem PySem.Spec PyProof.Rows L2

/-! ### static methods -/
/-- C.m is a static method: its record at p, its def at g -/
structure CSta (K : PySem.W.Frag) (C : Addr) (m : Str) (p g : Addr) : Prop where
  at_ : PySem.W.findCls K (.ref C) (.type "type") m = some (.get (.builtin "staticmethod.__get__") (.ref p) .none (.ref C))
  rc : ∃ rest, PySem.W.recIn K p "staticmethod" = some (.ref g :: rest)
  kp : PySem.W.keepIn K (.ref g) = true
theorem CSta.mk' {K : PySem.W.Frag} {C : Addr} {m : Str} {p g : Addr} {rest : List Value} (a : PySem.W.findCls K (.ref C) (.type "type") m = some (.get (.builtin "staticmethod.__get__") (.ref p) .none (.ref C))) (b : PySem.W.recIn K p "staticmethod" = some (.ref g :: rest)) (c : PySem.W.keepIn K (.ref g) = true) : CSta K C m p g := ⟨a, ⟨rest, b⟩, c⟩
section
variable {X : Cx} {pins : List (Addr × Obj)} {σ : St} {H : Hp} {s : Shared} {C p g : Addr} {m : Str} {A : Around} {E : Value → Shared → Prop}
theorem getmethst_ok {pl : Sem Bool} {Q : Value × List Value → Shared → Prop} (I : Inv X pins σ H s) (r : ClX.CRead X.K C (.type "type")) (k : CSta X.K C m p g)
    (h : ∀ s', Inv X pins σ H s' → Q (.ref g, []) s') : wpAny (model X.prog X.w) A (getMethod (.ref C) m pl) Q E s := by
  obtain ⟨rest, hp⟩ := k.rc
  refine PySem.W.method_cls I.kIn r.ga (PySem.W.cls_bind I.kIn r.rd k.at_ ?_)
  refine wpAny_call (PySem.W.sm_get (s := { s with toks := s.toks + 1 }) I.kIn hp (PySem.W.handed_on rfl ?_))
  exact h _ (I.tok _)
end
section
variable {X : Cx} {k : Nat} {f C p0 g : Addr} {ps : List Str} {sp : Sp} {W : WX} {x m : Str} {p pos apos : Pos} {e o : Expr} {es : List Expr} {ta : TE} {t : TA}
/-- how o.m(args) goes -/
def MTree (X : Cx) (pl : Sem Bool) (o : Expr) (m : Str) (args : List Expr) (pos apos : Pos) : Prop :=
  eval (.Call (.Attribute o m apos) args [] pos) X.env = (do let obj ← eval o X.env; standAt apos.atName; let (fn, fst) ← holding [obj] (getMethod obj m pl); callWith pos fn fst (backTo pos (starEach args X.env)) (backToKw pos (keywordEach [] X.env)))
/-- C.m(e, ..), m static -/
theorem pe_static {pl : Sem Bool} (G : FnA X.prog X.w X.K X.mg X.base k g ps sp) (hr : Room k X.A) (r : ClX.CRead X.K C (.type "type")) (c : CSta X.K C m p0 g) (hm : X.mg x = some (.ref C)) (tk : L2N.Takes X W)
    (ha : PA X (e :: es) t) (hg : Gl X x := by rfl) (hdb : (x == ("__debug__" : Str)) = false := by decide) (hst : starEach (e :: es) X.env = (false, eval e X.env) :: starEach es X.env := by rfl) (hpl : (backTo pos (starEach es X.env)).any (·.1) = false := by rfl) (ht : MTree X pl (.Name x p) m (e :: es) pos apos := by rfl) :
    PE X (.Call (.Attribute (.Name x p) m apos) (e :: es) [] pos) (tCallS sp (WE W) t) := by
  obtain ⟨fd, F, b⟩ := G
  refine ⟨fun pins s σ H Q I h => ?_⟩
  refine PySem.W.methodCall_KW (pl := pl) (ld_glob I hg hm ?_ hdb) ht
  refine getmethst_ok I r c fun s2 I2 => ?_
  refine PySem.W.callWith_K (first := []) (h₀ := X.base) I.ok.mod.kin c.kp (thn (ha.run pos pins s2 σ H _ I2 h) fun us s3 ⟨vs, H2, I3, rv, q2⟩ => ⟨I3.kIn, ?_⟩) hst hpl
  exact run_fnS (E := WE W) F hr b (L2N.passAt tk σ) I3 rv q2
/-! ### methods of instances -/
/-- o.m(..) -/
def tMethS (K : PySem.W.Frag) (C : Addr) (m : Str) (sp : Sp) (E : St → XK) (ta : TE) (t : TA) : TE := fun σ H Q => ta σ H fun x H1 => ∃ a dx fs, x = .ref a ∧ H1 a = some (.ins C dx fs) ∧ fs.lookup m = none ∧ t σ H1 fun vs H2 => sp (x :: vs) H2 Q (E σ)
theorem pe_methS {pl : Sem Bool} (G : FnA X.prog X.w X.K X.mg X.base k f ps sp) (hr : Room k X.A) (c : Cls X.K C) (hm : Meth X.K C m f) (tk : L2N.Takes X W) (he : PE X o ta) (ha : PA X (e :: es) t)
    (hst : starEach (e :: es) X.env = (false, eval e X.env) :: starEach es X.env := by rfl) (hpl : (backTo pos (starEach es X.env)).any (·.1) = false := by rfl) (ht : MTree X pl o m (e :: es) pos apos := by rfl) :
    PE X (.Call (.Attribute o m apos) (e :: es) [] pos) (tMethS X.K C m sp (WE W) ta t) := by
  obtain ⟨fd, F, b⟩ := G
  refine ⟨fun pins s σ H Q I h => ?_⟩
  refine PySem.W.methodCall_KW (pl := pl) (thn (he.run pins s σ H _ I h) fun u s1 ⟨x, H1, I1, rx, a, dx, fs, ex, ea, l, q⟩ => ?_) ht
  subst ex
  obtain rfl : u = Value.ref a := rx
  refine getmeth_ok I1 ea c hm l ?_
  refine PySem.W.callWith_K (first := [.ref a]) (h₀ := X.base) I.ok.mod.kin hm.kp (thn (ha.run pos pins s1 σ H1 _ I1 q) fun us s2 ⟨vs, H2, I2, r, q2⟩ => ⟨I2.kIn, ?_⟩) hst hpl
  exact run_fnS (E := WE W) (us := .ref a :: us) (vs := .ref a :: vs) F hr b (L2N.passAt tk σ) I2 (.cons rfl r) q2
theorem pe_methS0 {pl : Sem Bool} (G : FnA X.prog X.w X.K X.mg X.base k f ps sp) (hr : Room k X.A) (c : Cls X.K C) (hm : Meth X.K C m f) (tk : L2N.Takes X W) (he : PE X o ta) (ht : MTree X pl o m [] pos apos := by rfl) :
    PE X (.Call (.Attribute o m apos) [] [] pos) (tMethS X.K C m sp (WE W) ta tNil) := by
  obtain ⟨fd, F, b⟩ := G
  refine ⟨fun pins s σ H Q I h => ?_⟩
  refine PySem.W.methodCall_KW (pl := pl) (thn (he.run pins s σ H _ I h) fun u s1 ⟨x, H1, I1, rx, a, dx, fs, ex, ea, l, q⟩ => ?_) ht
  subst ex
  obtain rfl : u = Value.ref a := rx
  refine getmeth_ok I1 ea c hm l ?_
  exact PySem.W.callWith_K0 (first := [.ref a]) I1.kIn hm.kp (run_fnS (E := WE W) (us := [.ref a]) (vs := [.ref a]) F hr b (L2N.passAt tk σ) I1 (.cons rfl .nil) q)
/-! ### C(e, ..) -/
def tMakeS (C : Addr) (sp : Sp) (E : St → XK) (t : TA) : TE := fun σ H Q => t σ H fun vs H1 => ∀ x dx, H1 x = none → H1 dx = none → dx ≠ x →
  sp (.ref x :: vs) (upd (upd H1 dx (.own x)) x (.ins C dx [])) (fun v H2 => v = .non ∧ Q (.ref x) H2) (E σ)
theorem pe_makeS (G : FnA X.prog X.w X.K X.mg X.base k f ps sp) (M : Mk X.K C f) (hr : Room (k + 1) X.A) (hm : X.mg x = some (.ref C)) (tk : L2N.Takes X W)
    (ha : PA X (e :: es) t) (hg : Gl X x := by rfl) (hdb : (x == ("__debug__" : Str)) = false := by decide) (he : starEach (e :: es) X.env = (false, eval e X.env) :: starEach es X.env := by rfl) (hpl : (backTo pos (starEach es X.env)).any (·.1) = false := by rfl) :
    PE X (.Call (.Name x p) (e :: es) [] pos) (tMakeS C sp (WE W) t) := by
  obtain ⟨fd, F, b⟩ := G
  refine ⟨fun pins s σ H Q I h => ?_⟩
  refine wpAny_Call_Name_kw (ld_glob I hg hm ?_ hdb)
  refine PySem.W.callWith_K (h₀ := X.base) I.ok.mod.kin M.kp (thn (ha.run pos pins s σ H _ I h) fun us s1 ⟨vs, H1, I1, r, q⟩ => ⟨I1.kIn, ?_⟩) he hpl
  have hq := q (s1.heap.objs.size + 1) s1.heap.objs.size (I1.hok.fresh (Nat.le_succ _)) (I1.hok.fresh (Nat.le_refl _)) (Nat.ne_of_lt (Nat.lt_succ_self _))
  have I2 := Inv.made (C := C) I1
  have r2 : Vals (V.ref (s1.heap.objs.size + 1) :: vs) (Value.ref (s1.heap.objs.size + 1) :: us) := .cons rfl r
  have hl : ((Value.ref (s1.heap.objs.size + 1) :: us) ++ []).length = ps.length := by
    rw [List.append_nil, ← r2.length]; exact F.len _ _ _ _ hq
  have hb2 := b _ (Value.ref (s1.heap.objs.size + 1) :: us) I2.kIn hl
  rw [List.append_nil] at hb2
  refine wpAny_call (make_map (f := f) I1.kIn M.makes M.init (beq_iff_eq.mp M.fn) (codeAny_mono (F.run _ X.stack _ _ ⟨Value.ref (s1.heap.objs.size + 1) :: us, []⟩ (Value.ref (s1.heap.objs.size + 1) :: us) _ _ _ (hr.make C us [])
    (I2.env0.make C us []) hb2 r2 hq) fun r s' hq' => ?_))
  cases r with
  | error e => exact L2N.passAt tk σ pins _ _ e s' I2 hq'
  | ok fl =>
    cases fl with
    | ret u =>
      obtain ⟨v, H', I3, rv, ev, q3⟩ := I2.after hq'
      subst ev
      exact ⟨rv, ⟨V.ref (s1.heap.objs.size + 1), H', I3, rfl, q3⟩⟩
    | next => exact False.elim hq'
    | brk => exact False.elim hq'
    | cont => exact False.elim hq'
end
/-! ### the readings, one step -/
section
variable {σ : St} {H : Hp} {Q : VK} {D : Ends} {te tv : TE} {tl : TA} {K : PySem.W.Frag} {C a dx p : Addr} {f m : Str} {fs : List (Str × V)} {v y : V} {sp : Sp} {E : St → XK} {A : Prop}
/-- x.f -/
def aFld (K : PySem.W.Frag) (f : Str) (Q : VK) : VK := fun x H1 => ∃ a C dx fs v, x = .ref a ∧ H1 a = some (.ins C dx fs) ∧ Cls K C ∧ NoAttr K C f ∧ fs.lookup f = some v ∧ Q v H1
theorem s_fld (k : te σ H (aFld K f Q)) : tFld K te f σ H Q := k
theorem w_fld (hp : H a = some (.ins C dx fs)) (c : Cls K C) (n : NoAttr K C f) (l : fs.lookup f = some v) (k : Q v H) : aFld K f Q (.ref a) H := ⟨a, C, dx, fs, v, rfl, hp, c, n, l, k⟩
/-- x.f = y -/
def aSFld (K : PySem.W.Frag) (f : Str) (y : V) (k : Hp → Prop) : VK := fun x H2 => ∃ a C dx fs, x = .ref a ∧ H2 a = some (.ins C dx fs) ∧ Cls K C ∧ NoAttr K C f ∧ fs.length < 1000 ∧ k (upd H2 a (.ins C dx (putF f y fs)))
theorem s_sfld (k : tv σ H fun y H1 => te σ H1 (aSFld K f y fun H3 => D.nx σ H3)) : sFld K te tv f D σ H := k
theorem w_sfld {k : Hp → Prop} {fs' : List (Str × V)} (hp : H a = some (.ins C dx fs)) (c : Cls K C) (n : NoAttr K C f) (l : fs.length < 1000) (e : putF f y fs = fs') (q : k (upd H a (.ins C dx fs'))) : aSFld K f y k (.ref a) H :=
  ⟨a, C, dx, fs, rfl, hp, c, n, l, by rw [e]; exact q⟩
/-- x.m(..): the object -/
def aMeth (C : Addr) (m : Str) (k : V → Hp → Prop) : VK := fun x H1 => ∃ a dx fs, x = .ref a ∧ H1 a = some (.ins C dx fs) ∧ fs.lookup m = none ∧ k x H1
theorem s_methS (k : te σ H (aMeth C m fun x H1 => tl σ H1 fun vs H2 => sp (x :: vs) H2 Q (E σ))) : tMethS K C m sp E te tl σ H Q := k
theorem w_meth {k : V → Hp → Prop} (hp : H a = some (.ins C dx fs)) (l : fs.lookup m = none) (q : k (.ref a) H) : aMeth C m k (.ref a) H := ⟨a, dx, fs, rfl, hp, l, q⟩
theorem s_makeS (k : tl σ H fun vs H1 => ∀ x dx, H1 x = none → H1 dx = none → dx ≠ x → sp (.ref x :: vs) (upd (upd H1 dx (.own x)) x (.ins C dx [])) (fun v H2 => v = .non ∧ Q (.ref x) H2) (E σ)) : tMakeS C sp E tl σ H Q := k
def aCVal (K : PySem.W.Frag) (f : Str) (Q : VK) : VK := fun x H1 => ∃ C mc v u, x = .ref C ∧ ClX.CRead K C mc ∧ ClX.CVal K C mc f v u ∧ Q v H1
theorem s_cval (k : te σ H (aCVal K f Q)) : ClX.tCVal K te f σ H Q := k
theorem w_cval {mc u : Value} (r : ClX.CRead K C mc) (c : ClX.CVal K C mc f v u) (k : Q v H) : aCVal K f Q (.ref C) H := ⟨C, mc, v, u, rfl, r, c, k⟩
end
theorem put_nil {f : Str} {v : V} : putF f v [] = [(f, v)] := rfl
theorem put_hit {f : Str} {v x : V} {r : List (Str × V)} : putF f v ((f, x) :: r) = (f, v) :: r := by
  unfold putF
  rw [if_pos rfl]
theorem put_miss {f g : Str} {v x : V} {r r' : List (Str × V)} (n : g ≠ f) (e : putF f v r = r') : putF f v ((g, x) :: r) = (g, x) :: r' := by
  rw [← e]
  show (if g = f then _ else _) = _
  rw [if_neg n]
end Lk
namespace Lk
open PySem PySem.Spec PyProof.Rows L2

/-! ### a range that is kept, then walked -/
section
variable {X : Cx} {tg : Expr}
def iRngV (te : TE) : TI := fun σ H R => te σ H fun x H1 => ∃ p lo hi, x = .ref p ∧ H1 p = some (.rng lo hi) ∧ (-(2 ^ 62) ≤ lo ∧ lo < 2 ^ 62 ∧ -(2 ^ 62) ≤ hi ∧ hi < 2 ^ 62) ∧ R (Itr lo (hi - lo).toNat) H1
theorem pi_rng {e : Expr} {te : TE} (he : PE X e te) : PI X tg e (iRngV te) := by
  refine ⟨fun pins s σ H R I h => ?_⟩
  refine thn (he.run pins s σ H _ I h) fun v0 s1 ⟨x, H1, I1, r1, q1⟩ => ?_
  obtain ⟨p, lo, hi, ex, hp, ⟨h1, h2, h3, h4⟩, q⟩ := q1
  subst ex
  cases r1
  obtain ⟨t, u, v, ho⟩ : ∃ t u v, s1.heap.get? p = some { cls := .type "range", data := .fields #[.int lo t, .int hi u, .int 1 v] } := I1.hok p _ hp
  refine wpAny_pyIter_range (a := lo) (b := hi) (c := 1) (t := t) (u := u) (v := v) ho (small_one h1 h2 h3 h4) ?_
  refine ⟨s1.heap.objs.size, [s1.heap.objs.size], _, _, H1, rfl, I1.kept (t' := s1.toks) fun b o e => Heap.get?_push_of_some _ e, turn_range _ lo (hi - lo).toNat, ?_, fun b hb => ?_, q⟩
  · have e1 : lo + ((0 : Nat) : Int) * 1 = lo := by simp
    have e2 : (((hi - lo).toNat : Nat) : Int) - ((0 : Nat) : Int) = Builtin.Range.rangeSize lo hi 1 := by rw [rangeSize_one]; split <;> omega
    show IsRangeIter _ _ (lo + ((0 : Nat) : Int) * 1) ((((hi - lo).toNat : Nat) : Int) - ((0 : Nat) : Int)) 1
    rw [e1, e2]
    exact Heap.get?_push_size _ rfl
  · have e : b = s1.heap.objs.size := by simpa using hb
    subst e
    exact I1.fpOk (Nat.le_refl _) (I1.hok.fresh (Nat.le_refl _))
def rRange2 : List V → Hp → VK → Prop := fun vs H Q => ∃ i j, vs = [V.int i, V.int j] ∧ ∀ p, H p = none → Q (.ref p) (upd H p (.rng i j))
theorem b_range2 : CallR X (.type "range") rRange2 := cr_range2
/-! ### texts -/
def rJoin (K : PySem.W.Frag) : V → List V → Hp → VK → Prop := fun x xs H Q => ∃ a p, ∃ ys : List Str, x = .str a ∧ xs = [.ref p] ∧ (SqL K H p (ys.map V.str) ∨ SqT K H p (ys.map V.str)) ∧ (ys.map (·.length)).sum + ys.length * a.length ≤ 16777216 ∧ Q (.str (Txt.join a ys)) H
theorem m_join : MtR X "str.join" (rJoin X.K) := mt_join
def rSplit : V → List V → Hp → VK → Prop := fun x xs H Q => ∃ a b, x = .str a ∧ xs = [.str b] ∧ (b.length == 0) = false ∧ a.length + 2 ≤ sizeLine ∧ rNewStrs (Txt.split a b) H Q
theorem m_split : MtR X "str.split" rSplit := mt_split
def rDigit : V → List V → Hp → VK → Prop := fun x xs H Q => ∃ a, x = .str a ∧ xs = [] ∧ True ∧ Q (.bl (Txt.isdigit a)) H
theorem m_isdigit : MtR X "str.isdigit" rDigit := mt_isdigit
def rAscii : V → List V → Hp → VK → Prop := fun x xs H Q => ∃ a, x = .str a ∧ xs = [] ∧ True ∧ Q (.bl (Txt.isascii a)) H
theorem m_isascii : MtR X "str.isascii" rAscii := mt_isascii
def rIntS : List V → Hp → VK → Prop := fun xs H Q => ∃ a n, xs = [.str a] ∧ PySem.intText? a = some n ∧ a.length ≤ 640 ∧ Q (.int n) H
def rIntA : List V → Hp → VK → Prop := fun xs H Q => rInt1 xs H Q ∨ rIntS xs H Q
theorem b_intA : CallR X (.type "int") rIntA := CallR.or b_int call_int_str
def rStrI : List V → Hp → VK → Prop := fun xs H Q => ∃ i : Int, xs = [.int i] ∧ i.natAbs.log2 < 1920 ∧ Q (.str (Str.ofString (toString i))) H
theorem b_str : CallR X (.type "str") rStrI := call_str_int
end
section
variable {K : PySem.W.Frag} {H : Hp} {Q : VK} {a b : Str} {p : Addr} {ys : List Str} {i j n : Int} {us : List Int} {α : Type} {f : α → V} {vs : List α}
theorem w_join (hp : H p = some (.lst (ys.map V.str))) (hz : (ys.map (·.length)).sum + ys.length * a.length ≤ 16777216) (k : Q (.str (Txt.join a ys)) H) : rJoin K (.str a) [.ref p] H Q := ⟨a, p, ys, rfl, rfl, .inl (SqL.of hp), hz, k⟩
theorem w_split (hb : (b.length == 0) = false) (hz : a.length + 2 ≤ sizeLine) (k : ∀ p, H p = none → Q (.ref p) (upd H p (.lst ((Txt.split a b).map V.str)))) : rSplit (.str a) [.str b] H Q := ⟨a, b, rfl, rfl, hb, hz, k⟩
theorem w_digit (k : Q (.bl (Txt.isdigit a)) H) : rDigit (.str a) [] H Q := ⟨a, rfl, rfl, trivial, k⟩
theorem w_ascii (k : Q (.bl (Txt.isascii a)) H) : rAscii (.str a) [] H Q := ⟨a, rfl, rfl, trivial, k⟩
theorem w_intA (k : Q (.int i) H) : rIntA [.int i] H Q := .inl (w_int k)
theorem w_intB {c : Bool} (k : Q (.int (if c then 1 else 0)) H) : rIntA [.bl c] H Q := .inl (.inr ⟨c, rfl, k⟩)
theorem w_intS (h : PySem.intText? a = some n) (hl : a.length ≤ 640) (k : Q (.int n) H) : rIntA [.str a] H Q := .inr ⟨a, n, rfl, h, hl, k⟩
theorem w_strI (h : i.natAbs.log2 < 1920) (k : Q (.str (Str.ofString (toString i))) H) : rStrI [.int i] H Q := ⟨i, rfl, h, k⟩
theorem w_rngV (k : ∀ p, H p = none → Q (.ref p) (upd H p (.rng i j))) : rRange2 [.int i, .int j] H Q := ⟨i, j, rfl, k⟩
theorem w_ixQ [Inhabited α] (hp : SqL K H p (vs.map f)) (h0 : 0 ≤ i) (hl : i.toNat < vs.length) (k : Q (f (vs.getD i.toNat default)) H) : rIx K (.ref p) (.int i) H Q :=
  .inl ⟨p, _, _, _, rfl, rfl, hp, atI_pos h0 (map_getD hl), k⟩
theorem w_lenQ (hp : SqL K H p (vs.map f)) (k : Q (.int vs.length) H) : rLen K [.ref p] H Q := ⟨_, _, rfl, .inl ⟨_, hp, rfl⟩, by rw [List.length_map]; exact k⟩
end
section
variable {σ : St} {H : Hp} {Q : VK} {D : Ends} {g : TG} {tt : TT} {te tl : TE} {tb : TS} {K : PySem.W.Frag} {vs : List Nat} {α β : Type} {f : α → V} {f' : β → V}
def aCRngV (g : TG) (tt : TT) (te : TE) (vs : List Nat) (σ : St) (Q : VK) (x : V) (H1 : Hp) : Prop := ∃ p lo hi, x = .ref p ∧ H1 p = some (.rng lo hi) ∧ (-(2 ^ 62) ≤ lo ∧ lo < 2 ^ 62 ∧ -(2 ^ 62) ≤ hi ∧ hi < 2 ^ 62) ∧ aComp (Itr lo (hi - lo).toNat) g tt te vs σ Q H1
theorem s_lcV (k : tl σ H fun x H1 => aCRngV g tt te vs σ Q x H1) : tLc (iRngV tl) g tt te vs σ H Q := k
theorem w_lcV (ψ : Nat → Option β) {p : Addr} {lo n : Int} (hp : H p = some (.rng lo n)) (hl1 : -(2 ^ 62) ≤ lo) (hl2 : lo < 2 ^ 62) (hn1 : -(2 ^ 62) ≤ n) (hn2 : n < 2 ^ 62) (hz : (n - lo).toNat < sizeLine)
    (hs : ∀ (D : Addr) (i : Nat) (acc : List V) (H' : Hp), H D = none → lo + (i : Int) < n → Kp [] H H' → H' D = some (.lst acc) → acc.length < sizeLine → g (.int (lo + (i : Int))) (wipe σ vs) H' fun σ2 H2 => wipe σ2 vs = wipe σ vs ∧ tt σ2 H2 fun b H3 =>
      if b = true then te σ2 H3 (aKeep H D (acc ++ (ψ i).toList.map f')) else cNx H D (acc ++ (ψ i).toList.map f') H3)
    (k : ∀ D H', H D = none → Kp [] H H' → H' D = some (.lst (((List.range (n - lo).toNat).filterMap ψ).map f')) → Q (.ref D) H') : aCRngV g tt te vs σ Q (.ref p) H :=
  ⟨p, lo, n, rfl, hp, ⟨hl1, hl2, hn1, hn2⟩, w_lcR ψ hl1 hl2 hn1 hn2 hz hs k⟩
theorem w_lcE (ψ : Nat → α → Option β) {us : List α} {p : Addr} {j j' : Nat} (hp : H p = some (.lst (us.map f))) (hz : us.length < sizeLine)
    (hs : ∀ (D : Addr) (i : Nat) (u : α) (T : Addr) (acc : List V) (H' : Hp), H D = none → us[i]? = some u → Kp [] H H' → H' D = some (.lst acc) → acc.length < sizeLine → H' T = none → T ≠ D →
      wipe (((wipe σ vs).set j (some (.int (i : Int)))).set j' (some (f u))) vs = wipe σ vs ∧ tt (((wipe σ vs).set j (some (.int (i : Int)))).set j' (some (f u))) (upd H' T (.tup [.int (i : Int), f u])) fun b H3 =>
      if b = true then te (((wipe σ vs).set j (some (.int (i : Int)))).set j' (some (f u))) H3 (aKeep H D (acc ++ (ψ i u).toList.map f')) else cNx H D (acc ++ (ψ i u).toList.map f') H3)
    (k : ∀ D H', H D = none → Kp [] H H' → H' D = some (.lst ((us.zipIdx.filterMap fun q => ψ q.2 q.1).map f')) → Q (.ref D) H') : aCEnum K (gTup K 2 (gCons (gName j) (gCons (gName j') gNil))) tt te vs σ Q [.ref p] H := by
  refine ⟨p, _, rfl, SqL.of hp, fun D hD => ?_⟩
  refine ⟨fun i m H' => m = us.length - i ∧ i ≤ us.length ∧ cNx H D (((us.take i).zipIdx.filterMap fun q => ψ q.2 q.1).map f') H', ⟨us.length, by simp, Nat.zero_le _, ⟨Kp.refl.new hD, upd_same⟩⟩, ?_⟩
  rintro i m H' ⟨rfl, hi, q1, q2⟩
  have hpp := q1.at0 hp
  by_cases hlt : i < us.length
  · have hu : us[i]? = some us[i] := List.getElem?_eq_getElem hlt
    refine .inr ⟨⟨us.map f, f us[i], SqL.of hpp, by rw [List.getElem?_map, hu]; rfl⟩, cNx H D (((us.take (i + 1)).zipIdx.filterMap fun q => ψ q.2 q.1).map f'), fun H2 p' => ⟨us.length - (i + 1), by omega, rfl, hlt, p'⟩, fun x H2 y => ?_⟩
    obtain ⟨T, z, e1, e2, e3, y⟩ := y
    subst e1 e3
    have ez := y _ (SqL.of hpp)
    rw [List.getElem?_map, hu] at ez
    cases ez
    have hlen : (((us.take i).zipIdx.filterMap fun q => ψ q.2 q.1).map f').length < sizeLine := by
      have := List.length_filterMap_le (fun q : α × Nat => ψ q.2 q.1) (us.take i).zipIdx
      rw [List.length_zipIdx, List.length_take] at this
      rw [List.length_map]
      omega
    have hT : T ≠ D := Ne.symm (ne_of_none q2 e2)
    have e : us.take (i + 1) = us.take i ++ [us[i]] := by
      rw [List.take_succ, hu]; rfl
    have e2' : ((us.take (i + 1)).zipIdx.filterMap fun q => ψ q.2 q.1).map f' = ((us.take i).zipIdx.filterMap fun q => ψ q.2 q.1).map f' ++ (ψ i us[i]).toList.map f' := by
      rw [e, List.zipIdx_append, List.filterMap_append, List.map_append]
      have hl : (us.take i).length = i := by rw [List.length_take]; omega
      rw [hl]
      cases q : ψ i us[i] <;> simp [q]
    rw [e2']
    exact ⟨T, _, rfl, .inl (.inl upd_same), rfl, _, _, rfl, _, _, rfl, rfl, hs D i _ T _ H' hD hu q1 q2 hlen e2 hT⟩
  · have e : i = us.length := by omega
    subst e
    rw [List.take_length] at q2
    exact .inl ⟨⟨_, SqL.of hpp, by simp⟩, k D H' hD q1 q2⟩
end
/-! ### list(range(a, b)) -/
def rgI (a b : Int) : List Int := (List.range (b - a).toNat).map fun i : Nat => a + (i : Int)
theorem rgV_int (a b : Int) : rgV a b = (rgI a b).map V.int := by
  unfold rgV rgI
  rw [List.map_map]; rfl
theorem rgI_len (a b : Int) : (rgI a b).length = (b - a).toNat := by
  unfold rgI
  rw [List.length_map, List.length_range]
theorem rgI_get {a b : Int} {i : Nat} (h : i < (b - a).toNat) : (rgI a b)[i]? = some (a + (i : Int)) := by
  unfold rgI
  rw [List.getElem?_map, List.getElem?_range h]; rfl
def aRgL : R2 := fun x y H Q => ∃ i j, x = .int i ∧ y = .int j ∧ RgOk i j ∧ ∀ q, H q = none → Q (.ref q) (upd H q (.lst (rgV i j)))
section
variable {σ : St} {H : Hp} {Q : VK} {ta tb : TE} {i j : Int} {p q : Addr} {us : List Int}
theorem s_listRg (k : ta σ H fun x H1 => tb σ H1 fun y H2 => aRgL x y H2 Q) : tLstRg (tRg2 ta tb) σ H Q := by
  refine ?_
  unfold tLstRg tRg2
  have e : ∀ (x y : V) (H2 : Hp), aRgL x y H2 Q = ∃ i j, x = .int i ∧ y = .int j ∧ RgOk i j ∧ ∀ q, H2 q = none → Q (.ref q) (upd H2 q (.lst (rgV i j))) := fun _ _ _ => rfl
  exact k
theorem w_rgL (h : RgOk i j) (k : ∀ q, H q = none → Q (.ref q) (upd H q (.lst ((rgI i j).map V.int)))) : aRgL (.int i) (.int j) H Q := ⟨i, j, rfl, rfl, h, fun q hq => by rw [rgV_int]; exact k q hq⟩
theorem w_addL1 (hp : H p = some (.lst [.int i])) (hq : H q = some (.lst (us.map V.int))) (hl : 1 + us.length ≤ sizeLine) (k : ∀ r, H r = none → Q (.ref r) (upd H r (.lst ((i :: us).map V.int)))) : aAdd (.ref p) (.ref q) H Q :=
  w_addLM (us := [i]) (vs := us) (f := V.int) hp hq hl k
theorem w_addR1 (hp : H p = some (.lst (us.map V.int))) (hq : H q = some (.lst [.int i])) (hl : us.length + 1 ≤ sizeLine) (k : ∀ r, H r = none → Q (.ref r) (upd H r (.lst ((us ++ [i]).map V.int)))) : aAdd (.ref p) (.ref q) H Q :=
  w_addLM (us := us) (vs := [i]) (f := V.int) hp hq hl k
end
theorem log2_small {i : Int} (h : -1000000000000 ≤ i ∧ i ≤ 1000000000000) : i.natAbs.log2 < 1920 := by
  have h1 : i.natAbs < 2 ^ 40 := by omega
  by_cases z : i.natAbs = 0
  · rw [z]; decide
  · have := (Nat.log2_lt z).mpr h1
    omega
end Lk
namespace Lk
open PySem PySem.Spec PyProof.Rows L2 TL

/-! ### words that are numbers -/
def strI (i : Int) : Str := Str.ofString (toString i)
def isNumW (z : Str) : Bool := (Txt.isascii z && Txt.isdigit z) && (decide (z = "0") || (!decide ((⟨#[z.cps.toList.getD 0 default]⟩ : Str) = "0") && decide ((z.length : Int) ≤ 9)))
def numV (z : Str) : Int := (intText? z).getD 0
theorem ascii_digit : ∀ c < 128, Unicode.isDigit c = true → 48 ≤ c ∧ c ≤ 57 := by decide +kernel
theorem digit_ascii : ∀ c < 58, 48 ≤ c → Unicode.isDigit c = true := by decide +kernel
theorem num_digits {z : Str} (h1 : Txt.isascii z = true) (h2 : Txt.isdigit z = true) : NumText.AllDigits (tl z) ∧ tl z ≠ [] := by
  unfold Txt.isascii at h1
  unfold Txt.isdigit at h2
  rw [Bool.and_eq_true] at h2
  obtain ⟨h2, h3⟩ := h2
  refine ⟨fun c hc => ?_, fun e => ?_⟩
  · have m : c ∈ z.cps := Array.mem_toList_iff.mp hc
    have a := (Array.all_eq_true_iff_forall_mem.mp h1) c m
    have b := (Array.all_eq_true_iff_forall_mem.mp h3) c m
    exact ascii_digit c (by simpa using a) b
  · have : z.length = 0 := by rw [len_tl, e]; rfl
    rw [this] at h2
    simp at h2
theorem isNumW_parts {z : Str} (h : isNumW z = true) : Txt.isascii z = true ∧ Txt.isdigit z = true ∧ z.length ≤ 9 := by
  unfold isNumW at h
  rw [Bool.and_eq_true, Bool.and_eq_true] at h
  obtain ⟨⟨h1, h2⟩, h3⟩ := h
  refine ⟨h1, h2, ?_⟩
  rw [Bool.or_eq_true] at h3
  rcases h3 with h3 | h3
  · have : z = "0" := by simpa using h3
    rw [this]; decide
  · rw [Bool.and_eq_true] at h3
    have := h3.2
    simp at this
    omega
theorem num_text {z : Str} (h : isNumW z = true) : intText? z = some (numV z) ∧ 0 ≤ numV z ∧ z.length ≤ 640 := by
  obtain ⟨h1, h2, h3⟩ := isNumW_parts h
  obtain ⟨d, ne⟩ := num_digits h1 h2
  have e := PySem.intText_digits (x := z) d ne (by omega)
  unfold numV
  rw [e]
  refine ⟨rfl, ?_, by omega⟩
  show 0 ≤ ((NumText.digitsVal z.cps.toList : Nat) : Int)
  omega
/-! ### splits are not long -/
theorem spl_len (S : List Nat) : ∀ (l : List Nat) (k : Nat) (acc : List Nat), (spl S k acc l).length ≤ l.length + 1
  | [], k, acc => by rw [spl_nil]; simp
  | c :: r, 0, acc => by
    have h1 := spl_len S r (S.length - 1) []
    have h2 := spl_len S r 0 (acc ++ [c])
    cases h : pre S (c :: r) with
    | true => rw [spl_hit h]; simp; omega
    | false => rw [spl_miss h]; simp; omega
  | c :: r, k + 1, acc => by
    have h1 := spl_len S r k acc
    show (spl S k acc r).length ≤ _
    simp; omega
theorem spl_part_len (S : List Nat) : ∀ (l : List Nat) (k : Nat) (acc : List Nat), ∀ p ∈ spl S k acc l, p.length ≤ acc.length + l.length
  | [], k, acc => by rw [spl_nil]; simp
  | c :: r, 0, acc => by
    intro p hp
    cases h : pre S (c :: r) with
    | true =>
      rw [spl_hit h] at hp
      rcases List.mem_cons.mp hp with z | z
      · rw [z]; simp
      · have := spl_part_len S r (S.length - 1) [] p z
        simp at this ⊢; omega
    | false =>
      rw [spl_miss h] at hp
      have := spl_part_len S r 0 (acc ++ [c]) p hp
      simp at this ⊢; omega
  | c :: r, k + 1, acc => by
    intro p hp
    have := spl_part_len S r k acc p hp
    simp at this ⊢; omega
theorem spl_ne (S : List Nat) : ∀ (l : List Nat) (k : Nat) (acc : List Nat), spl S k acc l ≠ []
  | [], k, acc => by rw [spl_nil]; simp
  | c :: r, 0, acc => by
    cases h : pre S (c :: r) with
    | true => rw [spl_hit h]; simp
    | false => rw [spl_miss h]; exact spl_ne S r 0 _
  | c :: r, k + 1, acc => spl_ne S r k acc
section
variable {z y : Str}
theorem split_len (hy : tl y ≠ []) (hk : y.cps.all (· < 256) = true) : (Txt.split z y).length ≤ z.length + 1 := by
  have e := split_spl z y hy (kind_ok hk)
  have := spl_len (tl y) (tl z) 0 []
  rw [← e, List.length_map] at this
  rw [len_tl]; exact this
theorem split_part_len (hy : tl y ≠ []) (hk : y.cps.all (· < 256) = true) : ∀ p ∈ Txt.split z y, p.length ≤ z.length := by
  intro p hp
  have e := split_spl z y hy (kind_ok hk)
  have := spl_part_len (tl y) (tl z) 0 [] (tl p) (by rw [← e]; exact List.mem_map_of_mem hp)
  rw [len_tl, len_tl]
  simpa using this
theorem split_ne (hy : tl y ≠ []) (hk : y.cps.all (· < 256) = true) : Txt.split z y ≠ [] := by
  intro h
  have e := split_spl z y hy (kind_ok hk)
  rw [h] at e
  exact spl_ne _ _ _ _ e.symm
end
theorem tl_sp : tl " " = [32] := by decide +kernel
theorem tl_bar : tl " | " = [32, 124, 32] := by decide +kernel
theorem k_sp : (" " : Str).cps.all (· < 256) = true := by decide +kernel
theorem k_bar : (" | " : Str).cps.all (· < 256) = true := by decide +kernel
/-- the numbers of a part, if it is one -/
def numsOf (z : Str) : Option (List Int) := if (Txt.split z " ").all isNumW = true then some ((Txt.split z " ").map numV) else none
theorem numsOf_len {z : Str} {us : List Int} (h : numsOf z = some us) : 1 ≤ us.length ∧ us.length ≤ z.length + 1 ∧ ∀ u ∈ us, 0 ≤ u := by
  unfold numsOf at h
  split at h
  · rename_i q
    cases h
    rw [List.length_map]
    refine ⟨?_, split_len (by rw [tl_sp]; simp) k_sp, fun u hu => ?_⟩
    · have := split_ne (z := z) (y := " ") (by rw [tl_sp]; simp) k_sp
      cases e : Txt.split z " " with
      | nil => exact absurd e this
      | cons a l => simp
    · obtain ⟨w, hw, rfl⟩ := List.mem_map.mp hu
      exact (num_text (List.all_eq_true.mp q w hw)).2.1
  · cases h
/-! ### texts of numbers -/
theorem tl_strI {i : Int} (h : 0 ≤ i) : tl (strI i) = numL i.toNat := by
  have e := tl_num i.toNat
  rw [show ((i.toNat : Nat) : Int) = i by omega] at e
  exact e
theorem strI_len {i : Int} (h : 0 ≤ i) (h2 : i < 1000000000) : (strI i).length ≤ 9 := by
  rw [len_tl, tl_strI h]
  exact numL_len (by decide) (by omega)
theorem numL_head : ∀ (m n : Nat), n ≤ m → 0 < n → ∃ c r, numL n = c :: r ∧ c ≠ 48 := by
  intro m
  induction m with
  | zero => intro n h1 h2; omega
  | succ m ih =>
    intro n h1 h2
    by_cases h : n < 10
    · exact ⟨48 + n, [], numL_lt h, by omega⟩
    · obtain ⟨c, r, e, hc⟩ := ih (n / 10) (by omega) (by omega)
      exact ⟨c, r ++ [48 + n % 10], by rw [numL_step (by omega), e]; rfl, hc⟩
theorem isNum_strI {i : Int} (h : 0 ≤ i) (h2 : i < 1000000000) : isNumW (strI i) = true := by
  have et := tl_strI h
  have hl := strI_len h h2
  have hd := numL_digits i.toNat
  unfold isNumW
  rw [Bool.and_eq_true, Bool.and_eq_true]
  have hmem : ∀ c ∈ (strI i).cps, 48 ≤ c ∧ c ≤ 57 := fun c hc => hd c (by rw [← et]; exact Array.mem_toList_iff.mpr hc)
  have hne : 0 < (strI i).length := by
    rw [len_tl, et]
    exact List.length_pos_iff.mpr (numL_ne _)
  refine ⟨⟨?_, ?_⟩, ?_⟩
  · unfold Txt.isascii
    rw [Array.all_eq_true_iff_forall_mem]
    intro c hc
    have := hmem c hc
    simp; omega
  · unfold Txt.isdigit
    rw [Bool.and_eq_true]
    refine ⟨by simpa using hne, ?_⟩
    rw [Array.all_eq_true_iff_forall_mem]
    intro c hc
    have := hmem c hc
    exact digit_ascii c (by omega) this.1
  · rw [Bool.or_eq_true]
    by_cases z : i = 0
    · left
      subst z
      decide +kernel
    · right
      rw [Bool.and_eq_true]
      obtain ⟨c, r, e, hc⟩ := numL_head i.toNat i.toNat (Nat.le_refl _) (by omega)
      refine ⟨?_, by simp; omega⟩
      have e2 : (strI i).cps.toList = c :: r := by
        show tl (strI i) = _
        rw [et, e]
      rw [e2]
      simp only [List.getD_cons_zero]
      rw [Bool.not_eq_true', decide_eq_false_iff_not]
      intro q
      have q2 := congrArg tl q
      have q3 : tl ("0" : Str) = [48] := by decide +kernel
      rw [q3] at q2
      have q4 : tl (⟨#[c]⟩ : Str) = [c] := rfl
      rw [q4] at q2
      injection q2 with q5
      exact hc q5
theorem numV_strI {i : Int} (h : 0 ≤ i) (h2 : i < 1000000000) : numV (strI i) = i := by
  have e := int_num (n := i.toNat) (Nat.le_trans (numL_len (k := 9) (by decide) (by omega)) (by decide))
  rw [show ((i.toNat : Nat) : Int) = i by omega] at e
  unfold numV strI
  rw [e]; rfl
theorem no_sign {i : Int} {s : Nat} (h : 0 ≤ i) (hs : s < 48 ∨ 57 < s) : s ∉ tl (strI i) := by
  rw [tl_strI h]
  exact numL_free hs
theorem split_nums {us : List Int} (hne : us ≠ []) (h : ∀ u ∈ us, 0 ≤ u) : Txt.split (Txt.join " " (us.map strI)) " " = us.map strI := by
  refine split_join (s := 32) (S := []) tl_sp k_sp (by simpa using hne) fun p hp => ?_
  obtain ⟨u, hu, rfl⟩ := List.mem_map.mp hp
  exact no_sign (h u hu) (by omega)
theorem numsOf_join {us : List Int} (hne : us ≠ []) (h : ∀ u ∈ us, 0 ≤ u ∧ u < 1000000000) : numsOf (Txt.join " " (us.map strI)) = some us := by
  unfold numsOf
  rw [split_nums hne (fun u hu => (h u hu).1)]
  have q : (us.map strI).all isNumW = true := by
    rw [List.all_eq_true]
    intro w hw
    obtain ⟨u, hu, rfl⟩ := List.mem_map.mp hw
    exact isNum_strI (h u hu).1 (h u hu).2
  rw [if_pos q, List.map_map]
  congr 1
  conv => rhs; rw [← List.map_id us]
  apply List.map_congr_left
  intro u hu
  exact numV_strI (h u hu).1 (h u hu).2
/-- a bar is in no text of numbers -/
theorem joinL_free {s : Nat} {S : List Nat} (hS : s ∉ S) : ∀ {ps : List (List Nat)}, (∀ p ∈ ps, s ∉ p) → s ∉ joinL S ps
  | [], _ => List.not_mem_nil
  | [p], h => h p (List.mem_singleton.mpr rfl)
  | p :: q :: r, h => by
    show s ∉ p ++ (S ++ joinL S (q :: r))
    intro z
    rcases List.mem_append.mp z with z | z
    · exact h p List.mem_cons_self z
    · rcases List.mem_append.mp z with z | z
      · exact hS z
      · exact joinL_free hS (fun x hx => h x (List.mem_cons_of_mem _ hx)) z
theorem no_bar {us : List Int} (h : ∀ u ∈ us, 0 ≤ u) : 124 ∉ tl (Txt.join " " (us.map strI)) := by
  rw [join_eq, tl_join, tl_sp]
  refine joinL_free (by decide) fun p hp => ?_
  obtain ⟨w, hw, rfl⟩ := List.mem_map.mp hp
  obtain ⟨u, hu, rfl⟩ := List.mem_map.mp hw
  exact no_sign (h u hu) (by omega)
theorem pre_bar {p q : List Nat} (h : 124 ∉ p) (hq : ∀ c, q[0]? = some c → c ≠ 124) : ∀ i, i < p.length → pre [32, 124, 32] ((p ++ q).drop i) = false := by
  intro i hi
  cases e : pre [32, 124, 32] ((p ++ q).drop i) with
  | false => rfl
  | true =>
    exfalso
    unfold pre at e
    have e2 : ((p ++ q).drop i).take 3 = [32, 124, 32] := by simpa using e
    have e3 : ((p ++ q).drop i)[1]? = some 124 := by
      have : (((p ++ q).drop i).take 3)[1]? = some 124 := by rw [e2]; rfl
      rw [List.getElem?_take_of_lt (by omega)] at this
      exact this
    rw [List.getElem?_drop] at e3
    by_cases z : i + 1 < p.length
    · rw [List.getElem?_append_left z] at e3
      exact h (List.mem_of_getElem? e3)
    · rw [List.getElem?_append_right (by omega), show i + 1 - p.length = 0 by omega] at e3
      exact hq 124 e3 rfl
theorem spl_bar {p rest acc : List Nat} (h : 124 ∉ p) : spl [32, 124, 32] 0 acc (p ++ ([32, 124, 32] ++ rest)) = (acc ++ p) :: spl [32, 124, 32] 0 [] rest :=
  spl_part (by simp) (pre_bar h (fun c e => by simp at e; omega))
theorem spl_bar_last {p acc : List Nat} (h : 124 ∉ p) : spl [32, 124, 32] 0 acc p = [acc ++ p] := spl_last fun i hi => by
  have := pre_bar (q := []) h (fun c e => by simp at e) i hi
  rwa [List.append_nil] at this
theorem split_three {a b c : Str} (ha : 124 ∉ tl a) (hb : 124 ∉ tl b) (hc : 124 ∉ tl c) : Txt.split (a ++ " | " ++ b ++ " | " ++ c) " | " = [a, b, c] := by
  refine map_tl_inj ?_
  rw [split_spl _ _ (by rw [tl_bar]; simp) (kind_ok k_bar), tl_append, tl_append, tl_append, tl_append, tl_bar]
  rw [List.append_assoc, List.append_assoc, List.append_assoc, spl_bar ha, spl_bar hb, spl_bar_last hc]
  rfl
theorem join_three (a b c : Str) : Txt.join " | " [a, b, c] = a ++ " | " ++ b ++ " | " ++ c := by
  refine ext_tl ?_
  rw [join_eq, tl_join, tl_append, tl_append, tl_append, tl_append]
  show tl a ++ (tl " | " ++ (tl b ++ (tl " | " ++ tl c))) = _
  simp only [List.append_assoc]
theorem sum_len {ys : List Str} {c : Nat} (h : ∀ y ∈ ys, y.length ≤ c) : (ys.map (·.length)).sum ≤ ys.length * c := by
  induction ys with
  | nil => simp
  | cons y ys ih =>
    have h1 := h y List.mem_cons_self
    have h2 := ih (fun z hz => h z (List.mem_cons_of_mem _ hz))
    rw [List.map_cons, List.sum_cons, List.length_cons, Nat.succ_mul]
    omega
theorem joinL_len (S : List Nat) : ∀ ps : List (List Nat), (joinL S ps).length ≤ (ps.map (·.length)).sum + ps.length * S.length
  | [] => by simp [joinL]
  | [p] => by simp [joinL]
  | p :: q :: r => by
    have := joinL_len S (q :: r)
    show (p ++ (S ++ joinL S (q :: r))).length ≤ _
    simp only [List.length_append, List.map_cons, List.sum_cons, List.length_cons] at this ⊢
    rw [Nat.succ_mul]
    omega
theorem join_len {ys : List Str} {c : Nat} (h : ∀ y ∈ ys, y.length ≤ c) : (Txt.join " " ys).length ≤ ys.length * (c + 1) := by
  rw [len_tl, join_eq, tl_join, tl_sp]
  have h1 := joinL_len [32] (ys.map tl)
  have h2 := sum_len h
  have e : ((ys.map tl).map (·.length)) = ys.map (·.length) := by
    rw [List.map_map]
    apply List.map_congr_left
    intro y _
    show (tl y).length = y.length
    rw [len_tl]
  rw [e, List.length_map] at h1
  rw [Nat.mul_add]
  simp at h1 ⊢
  omega
theorem nums_len {us : List Int} (h : ∀ u ∈ us, 0 ≤ u ∧ u < 1000000000) : (Txt.join " " (us.map strI)).length ≤ us.length * 10 ∧ ((us.map strI).map (·.length)).sum ≤ us.length * 9 := by
  have q : ∀ y ∈ us.map strI, y.length ≤ 9 := by
    intro y hy
    obtain ⟨u, hu, rfl⟩ := List.mem_map.mp hy
    exact strI_len (h u hu).1 (h u hu).2
  have h1 := join_len q
  have h2 := sum_len q
  rw [List.length_map] at h1 h2
  exact ⟨h1, h2⟩
theorem len_app (a b : Str) : (a ++ b).length = a.length + b.length := by
  rw [len_tl, tl_append, List.length_append, ← len_tl, ← len_tl]
/-! ### lists of tuples -/
/-- xs holds, one by one, tuples of the rows vss -/
inductive Tps (H : Hp) : List V → List (List V) → Prop
  | nil : Tps H [] []
  | cons {r xs vs vss} : H r = some (.tup vs) → Tps H xs vss → Tps H (.ref r :: xs) (vs :: vss)
theorem Tps.kp {H H' : Hp} {xs : List V} {ps : List (List V)} (h : Tps H xs ps) (k : ∀ a o, (∃ vs, o = HO.tup vs) → H a = some o → H' a = some o) : Tps H' xs ps := by
  induction h with
  | nil => exact .nil
  | cons h1 _ ih => exact .cons (k _ _ ⟨_, rfl⟩ h1) ih
theorem Tps.len {H : Hp} {xs : List V} {ps : List (List V)} (h : Tps H xs ps) : xs.length = ps.length := by
  induction h with
  | nil => rfl
  | cons _ _ ih => simp [ih]
theorem Tps.snoc {H : Hp} {xs : List V} {ps : List (List V)} {r : Addr} {vs : List V} (h : Tps H xs ps) (e : H r = some (.tup vs)) : Tps H (xs ++ [.ref r]) (ps ++ [vs]) := by
  induction h with
  | nil => exact .cons e .nil
  | cons h1 _ ih => exact .cons h1 ih
theorem Tps.get {H : Hp} {xs : List V} {ps : List (List V)} (h : Tps H xs ps) : ∀ {k : Nat} {p : List V}, ps[k]? = some p → ∃ r, xs[k]? = some (.ref r) ∧ H r = some (.tup p) := by
  induction h with
  | nil => intro k p e; simp at e
  | cons h1 _ ih =>
    intro k p e
    cases k with
    | zero => simp at e; subst e; exact ⟨_, rfl, h1⟩
    | succ k => simpa using ih (by simpa using e)
theorem Tps.getX {H : Hp} {xs : List V} {ps : List (List V)} (h : Tps H xs ps) {k : Nat} {x : V} (e : xs[k]? = some x) : ∃ r p, x = .ref r ∧ ps[k]? = some p ∧ H r = some (.tup p) := by
  have hl : k < ps.length := by rw [← h.len]; exact (List.getElem?_eq_some_iff.mp e).1
  obtain ⟨r, h1, h2⟩ := h.get (List.getElem?_eq_getElem hl)
  rw [e] at h1
  cases h1
  exact ⟨r, _, rfl, List.getElem?_eq_getElem hl, h2⟩
theorem Tps.new {H : Hp} {xs : List V} {ps : List (List V)} {p : Addr} {o : HO} (h : Tps H xs ps) (hp : H p = none) : Tps (upd H p o) xs ps := h.kp fun a u _ e => by rw [upd_ne (ne_of_none e hp)]; exact e
/-- a list is changed -/
theorem Tps.mut {H : Hp} {xs ys : List V} {ps : List (List V)} {p : Addr} {o : HO} (h : Tps H xs ps) (hp : H p = some (.lst ys)) : Tps (upd H p o) xs ps := h.kp fun a u z e => by
  obtain ⟨vs, rfl⟩ := z
  rw [upd_ne (ne_of e hp (by intro q; cases q))]; exact e
theorem Tps.kp0 {H H' : Hp} {xs : List V} {ps : List (List V)} (h : Tps H xs ps) (k : Kp [] H H') : Tps H' xs ps := h.kp fun a o _ e => k a o e List.not_mem_nil
/-- lists, at most, are changed -/
theorem Tps.kpm {ms : List Addr} {H H' : Hp} {xs : List V} {ps : List (List V)} (h : Tps H xs ps) (k : Kp ms H H') (hm : ∀ m ∈ ms, ∃ ys, H m = some (.lst ys)) : Tps H' xs ps := h.kp fun a o z e => k a o e fun hz => by
  obtain ⟨vs, rfl⟩ := z
  obtain ⟨ys, e2⟩ := hm a hz
  rw [e] at e2; cases e2
/-! ### equal tuples -/
/-- flat rows as data -/
def datV : V → PyData
  | .int i => .int i
  | .str x => .str x
  | .bl b => .bool b
  | _ => .none
def flatRow (vs : List V) : Bool := vs.all fun v => match v with
  | .int _ => true
  | .str _ => true
  | .bl _ => true
  | .non => true
  | _ => false
theorem dpRow {K : PySem.W.Frag} {H : Hp} : ∀ {vs : List V}, flatRow vs = true → DpAll K H vs (vs.map datV)
  | [], _ => .nil
  | v :: vs, h => by
    unfold flatRow at h
    rw [List.all_cons, Bool.and_eq_true] at h
    refine .cons ?_ (dpRow h.2)
    cases v with
    | int i => exact .int i
    | str x => exact .str x
    | bl b => exact .bl b
    | non => exact .non
    | byt b => exact absurd h.1 Bool.false_ne_true
    | flt b => exact absurd h.1 Bool.false_ne_true
    | ref a => exact absurd h.1 Bool.false_ne_true
    | ty n => exact absurd h.1 Bool.false_ne_true
theorem eqRow : ∀ vs : List V, PyData.eqvAll (vs.map datV) (vs.map datV) = true
  | [] => rfl
  | v :: vs => by
    rw [List.map_cons, PyData.eqvAll, eqRow vs, Bool.and_true]
    cases v <;> simp [datV, PyData.eqv]
theorem sh_row {ds : List PyData} (h : ds.all (fun d => d.canLay0 && decide (d.depth ≤ 1)) = true) : SeqAt.shaped (.tuple ds) = true := by
  have a : ∀ ds : List PyData, ds.all (fun d => d.canLay0 && decide (d.depth ≤ 1)) = true → PyData.canLayAll0 ds = true ∧ PyData.depthAll ds ≤ 1 := by
    intro ds
    induction ds with
    | nil => intro _; exact ⟨by simp [PyData.canLayAll0], by simp [PyData.depthAll]⟩
    | cons d ds ih =>
      intro h
      simp only [List.all_cons, Bool.and_eq_true, decide_eq_true_eq] at h
      have := ih (by simpa using h.2)
      refine ⟨by simp [PyData.canLayAll0, h.1.1, this.1], by simp [PyData.depthAll]; omega⟩
  have := a ds h
  unfold SeqAt.shaped
  simp [PyData.canLay0, PyData.depth, this.1]
  omega
def okV : V → Bool
  | .int _ => true
  | .str x => PyData.strOk x
  | .bl _ => true
  | .non => true
  | _ => false
theorem shaped_row {vs : List V} (h : vs.all okV = true) : SeqAt.shaped (.tuple (vs.map datV)) = true := by
  refine sh_row ?_
  rw [List.all_map]
  rw [List.all_eq_true] at h ⊢
  intro v hv
  have := h v hv
  cases v <;> simp_all [okV, datV, PyData.canLay0, PyData.depth]
theorem flat_row {vs : List V} (h : vs.all okV = true) : flatRow vs = true := by
  unfold flatRow
  rw [List.all_eq_true] at h ⊢
  intro v hv
  have := h v hv
  cases v <;> simp_all [okV]
section
variable {K : PySem.W.Frag} {H : Hp} {Q : VK} {p q : Addr} {vs : List V}
theorem w_neT (hp : H p = some (.tup vs)) (hq : H q = some (.tup vs)) (hf : flatRow vs = true) (hs : SeqAt.shaped (.tuple (vs.map datV)) = true) (k : Q (.bl false) H) : aNe K (.ref p) (.ref q) H Q :=
  .inr ⟨_, _, .tup (.inl (.inl hp)) (dpRow hf), .tup (.inl (.inl hq)) (dpRow hf), hs, hs, by rw [PyData.eqv, eqRow]; exact k⟩
theorem w_eqT (hp : H p = some (.tup vs)) (hq : H q = some (.tup vs)) (hf : flatRow vs = true) (hs : SeqAt.shaped (.tuple (vs.map datV)) = true) (k : Q (.bl true) H) : aEq K (.ref p) (.ref q) H Q :=
  .inr ⟨_, _, .tup (.inl (.inl hp)) (dpRow hf), .tup (.inl (.inl hq)) (dpRow hf), hs, hs, by rw [PyData.eqv, eqRow]; exact k⟩
end
/-! ### from the end -/
theorem atI_neg {α : Type} {xs : List α} {i : Int} {v : α} (hi : i < 0) (hl : -i ≤ (xs.length : Int)) (h : xs[((xs.length : Int) + i).toNat]? = some v) : atI xs i = some v := by
  unfold atI ixN
  rw [if_neg (by omega), if_pos (by omega), show i + (xs.length : Int) = (xs.length : Int) + i by omega]
  exact h
theorem w_ixNeg {α : Type} [Inhabited α] {f : α → V} {us : List α} {K : PySem.W.Frag} {H : Hp} {Q : VK} {p : Addr} {i : Int} (hp : H p = some (.lst (us.map f))) (hi : i < 0) (hl : -i ≤ (us.length : Int)) (k : Q (f (us.getD ((us.length : Int) + i).toNat default)) H) : rIx K (.ref p) (.int i) H Q :=
  .inl ⟨p, _, _, _, rfl, rfl, SqL.of hp, atI_neg hi (by simpa using hl) (by
    rw [List.length_map, List.getElem?_map, List.getD_eq_getElem?_getD, List.getElem?_eq_getElem (by omega)]; rfl), k⟩
/-! ### members: texts, truth values -/
section
variable {p : Addr} {H : Hp} {Q : VK} {K : PySem.W.Frag}
theorem eqV_str (a b : Str) : eqV (.str a) (.str b) = decide (a = b) := by
  have : eqV (.str a) (.str b) = (a == b) := rfl
  rw [this]
  by_cases z : a = b <;> simp [z]
theorem eqV_bl (a b : Bool) : eqV (.bl a) (.bl b) = decide (a = b) := by cases a <;> cases b <;> rfl
theorem inV_str {x : Str} : ∀ us : List Str, inV (.str x) (us.map V.str) = decide (x ∈ us)
  | [] => by simp [inV]
  | u :: us => by
    have h := inV_str (x := x) us
    unfold inV at h ⊢
    rw [List.map_cons, List.any_cons, h, eqV_str]
    by_cases z : u = x
    · simp [z]
    · have z2 : ¬ x = u := fun q => z q.symm
      simp [z, z2]
theorem inV_bl {x : Bool} : ∀ us : List Bool, inV (.bl x) (us.map V.bl) = decide (x ∈ us)
  | [] => by simp [inV]
  | u :: us => by
    have h := inV_bl (x := x) us
    unfold inV at h ⊢
    rw [List.map_cons, List.any_cons, h, eqV_bl]
    by_cases z : u = x
    · simp [z]
    · have z2 : ¬ x = u := fun q => z q.symm
      simp [z, z2]
theorem flat_str : ∀ us : List Str, (us.map V.str).all flatV = true
  | [] => rfl
  | u :: us => by rw [List.map_cons, List.all_cons, flat_str us]; rfl
theorem flat_bl : ∀ us : List Bool, (us.map V.bl).all flatV = true
  | [] => rfl
  | u :: us => by rw [List.map_cons, List.all_cons, flat_bl us]; rfl
theorem w_inS {x : Str} {us : List Str} (hp : H p = some (.lst (us.map V.str))) (k : Q (.bl (decide (x ∈ us))) H) : rIn K false (.str x) (.ref p) H Q :=
  ⟨p, _, rfl, .inl (SqL.of hp), rfl, flat_str us, by rw [inV_str]; exact k⟩
theorem w_notInS {x : Str} {us : List Str} (hp : H p = some (.lst (us.map V.str))) (k : Q (.bl (!decide (x ∈ us))) H) : rIn K true (.str x) (.ref p) H Q :=
  ⟨p, _, rfl, .inl (SqL.of hp), rfl, flat_str us, by rw [inV_str]; exact k⟩
theorem w_inB {x : Bool} {us : List Bool} (hp : H p = some (.lst (us.map V.bl))) (k : Q (.bl (decide (x ∈ us))) H) : rIn K false (.bl x) (.ref p) H Q :=
  ⟨p, _, rfl, .inl (SqL.of hp), rfl, flat_bl us, by rw [inV_bl]; exact k⟩
theorem w_notInB {x : Bool} {us : List Bool} (hp : H p = some (.lst (us.map V.bl))) (k : Q (.bl (!decide (x ∈ us))) H) : rIn K true (.bl x) (.ref p) H Q :=
  ⟨p, _, rfl, .inl (SqL.of hp), rfl, flat_bl us, by rw [inV_bl]; exact k⟩
end
end Lk
namespace Lk
open PySem PySem.Spec PyProof.Rows L2 TL

/-! ### is, of truth values -/
theorem vbl_beq (a b : Bool) : ((Value.bool a) == (Value.bool b)) = decide (a = b) := by
  by_cases e : a = b
  · subst e
    exact (beq_self_eq_true (Value.bool a)).trans (decide_eq_true (p := a = a) rfl).symm
  · exact (beq_eq_false_iff_ne.mpr fun z => e (Value.bool.inj z)).trans (decide_eq_false e).symm
section
variable {X : Cx}
theorem op_isBl : OpR X (compareOp .Is) (fun x y H Q => ∃ a b, x = .bl a ∧ y = .bl b ∧ Q (.bl (decide (a = b))) H) := by
  intro pins s σ H x y v u Q I rx ry h
  obtain ⟨a, b, rfl, rfl, q⟩ := h
  cases (show v = Value.bool a from rx)
  cases (show u = Value.bool b from ry)
  exact wpAny_is_plain rfl (fin_bl I q (vbl_beq a b).symm)
theorem op_notBl : OpR X (compareOp .IsNot) (fun x y H Q => ∃ a b, x = .bl a ∧ y = .bl b ∧ Q (.bl (!decide (a = b))) H) := by
  intro pins s σ H x y v u Q I rx ry h
  obtain ⟨a, b, rfl, rfl, q⟩ := h
  cases (show v = Value.bool a from rx)
  cases (show u = Value.bool b from ry)
  exact wpAny_isNot_plain rfl (fin_bl I q (congrArg not (vbl_beq a b).symm))
end
def aIsB : R2 := fun x y H Q => ∃ a b, x = .bl a ∧ y = .bl b ∧ Q (.bl (decide (a = b))) H
def aNotB : R2 := fun x y H Q => ∃ a b, x = .bl a ∧ y = .bl b ∧ Q (.bl (!decide (a = b))) H
theorem o_isB {X : Cx} : OpR X (compareOp .Is) aIsB := op_isBl
theorem o_notB {X : Cx} : OpR X (compareOp .IsNot) aNotB := op_notBl
theorem w_isB {a b : Bool} {H : Hp} {Q : VK} (k : Q (.bl (decide (a = b))) H) : aIsB (.bl a) (.bl b) H Q := ⟨a, b, rfl, rfl, k⟩
theorem w_notB {a b : Bool} {H : Hp} {Q : VK} (k : Q (.bl (!decide (a = b))) H) : aNotB (.bl a) (.bl b) H Q := ⟨a, b, rfl, rfl, k⟩
/-! ### tuple(list) -/
def rTupOf (K : PySem.W.Frag) : List V → Hp → VK → Prop := fun xs H Q => ∃ p ys, xs = [.ref p] ∧ ((SqL K H p ys ∧ ∀ l, H l = none → Q (.ref l) (upd H l (.tup ys))) ∨ (SqT K H p ys ∧ Q (.ref p) H))
theorem b_tuple {X : Cx} : CallR X (.type "tuple") (rTupOf X.K) := call_tuple_of
theorem w_tupOf {K : PySem.W.Frag} {H : Hp} {p : Addr} {ys : List V} {Q : VK} (hp : H p = some (.lst ys)) (k : ∀ l, H l = none → Q (.ref l) (upd H l (.tup ys))) : rTupOf K [.ref p] H Q := ⟨p, ys, rfl, .inl ⟨SqL.of hp, k⟩⟩
/-! ### isinstance(o, C) of an own class -/
def rIsC (C : Addr) : List V → Hp → VK → Prop := fun xs H Q => ∃ a dx fs, xs = [.ref a, .ref C] ∧ H a = some (.ins C dx fs) ∧ Q (.bl true) H
theorem b_isC {X : Cx} {C : Addr} (c : C8.InsC X.K C) : CallR X (.builtin "isinstance") (rIsC C) := C8.call_isC c
theorem w_isC {C a dx : Addr} {fs : List (Str × V)} {H : Hp} {Q : VK} (hp : H a = some (.ins C dx fs)) (k : Q (.bl true) H) : rIsC C [.ref a, .ref C] H Q := ⟨a, dx, fs, rfl, hp, k⟩
/-! ### values as data -/
section
variable {K : PySem.W.Frag} {H : Hp} {n m : Nat}
def DV (K : PySem.W.Frag) (H : Hp) (n : Nat) (v : V) (d : PyData) : Prop := Dp K H v d ∧ d.canLay0 = true ∧ d.depth ≤ n
def DvAll (K : PySem.W.Frag) (H : Hp) (n : Nat) (vs : List V) (ds : List PyData) : Prop := DpAll K H vs ds ∧ PyData.canLayAll0 ds = true ∧ PyData.depthAll ds ≤ n
theorem DV.int (i : Int) : DV K H n (.int i) (.int i) := ⟨.int i, by simp [PyData.canLay0], by simp [PyData.depth]⟩
theorem DV.bl (b : Bool) : DV K H n (.bl b) (.bool b) := ⟨.bl b, by simp [PyData.canLay0], by simp [PyData.depth]⟩
theorem DV.str {x : Str} (h : PyData.strOk x = true) : DV K H n (.str x) (.str x) := ⟨.str x, by simp [PyData.canLay0, h], by simp [PyData.depth]⟩
theorem DV.non : DV K H n .non .none := ⟨.non, by simp [PyData.canLay0], by simp [PyData.depth]⟩
theorem DvAll.nil : DvAll K H n [] [] := ⟨.nil, by simp [PyData.canLayAll0], by simp [PyData.depthAll]⟩
theorem DvAll.cons {v : V} {vs : List V} {d : PyData} {ds : List PyData} (h1 : DV K H n v d) (h2 : DvAll K H n vs ds) : DvAll K H n (v :: vs) (d :: ds) :=
  ⟨.cons h1.1 h2.1, by simp [PyData.canLayAll0, h1.2.1, h2.2.1], by have := h1.2.2; have := h2.2.2; simp [PyData.depthAll]; omega⟩
theorem DV.tup {p : Addr} {vs : List V} {ds : List PyData} (hp : H p = some (.tup vs)) (h : DvAll K H n vs ds) : DV K H (n + 1) (.ref p) (.tuple ds) :=
  ⟨.tup (.inl (.inl hp)) h.1, by simp [PyData.canLay0, h.2.1], by have := h.2.2; simp [PyData.depth]; omega⟩
theorem DV.lst {p : Addr} {vs : List V} {ds : List PyData} (hp : H p = some (.lst vs)) (h : DvAll K H n vs ds) : DV K H (n + 1) (.ref p) (.list ds) :=
  ⟨.lst (SqL.of hp) h.1, by simp [PyData.canLay0, h.2.1], by have := h.2.2; simp [PyData.depth]; omega⟩
theorem DvAll.row : ∀ {vs : List V}, vs.all okV = true → DvAll K H n vs (vs.map datV)
  | [], _ => .nil
  | v :: vs, h => by
    rw [List.all_cons, Bool.and_eq_true] at h
    refine .cons ?_ (DvAll.row h.2)
    cases v with
    | int i => exact .int i
    | str x => exact .str h.1
    | bl b => exact .bl b
    | non => exact .non
    | byt b => exact absurd h.1 Bool.false_ne_true
    | flt b => exact absurd h.1 Bool.false_ne_true
    | ref a => exact absurd h.1 Bool.false_ne_true
    | ty n => exact absurd h.1 Bool.false_ne_true
theorem DV.shaped {v : V} {d : PyData} (h : DV K H n v d) (hn : n ≤ 64) : SeqAt.shaped d = true := by
  unfold SeqAt.shaped
  rw [h.2.1, Bool.true_and]
  exact decide_eq_true (Nat.le_trans h.2.2 hn)
theorem w_eqV {x y : V} {d e : PyData} {Q : VK} (h1 : DV K H 10 x d) (h2 : DV K H 10 y e) (k : Q (.bl (PyData.eqv d e)) H) : aEq K x y H Q :=
  .inr ⟨d, e, h1.1, h2.1, h1.shaped (by decide), h2.shaped (by decide), k⟩
end
/-! ### a comprehension over a list whose turns make things -/
section
variable {σ : St} {H : Hp} {g : TG} {tt : TT} {te : TE} {K : PySem.W.Frag} {vs : List Nat} {Q : VK} {α : Type} {f : α → V}
theorem w_lcMG {us : List α} {p : Addr} (J : Addr → Nat → List V → Hp → Prop) (hp : H p = some (.lst (us.map f)))
    (h0 : ∀ D, H D = none → J D 0 [] (upd H D (.lst [])))
    (hs : ∀ (D : Addr) (i : Nat) (u : α) (acc : List V) (H' : Hp), H D = none → us[i]? = some u → acc.length ≤ i → Kp [] H H' → H' D = some (.lst acc) → J D i acc H' → g (f u) (wipe σ vs) H' fun σ2 H2 => wipe σ2 vs = wipe σ vs ∧ tt σ2 H2 fun b H3 =>
      if b = true then te σ2 H3 (gKeep [] H D (J D) (i + 1)) else gNx [] H D (J D) (i + 1) H3)
    (k : ∀ D acc H', H D = none → acc.length ≤ us.length → Kp [] H H' → H' D = some (.lst acc) → J D us.length acc H' → Q (.ref D) H') : aCList K g tt te vs σ Q (.ref p) H :=
  ⟨p, rfl, ⟨_, SqL.of hp⟩, fun D hD => lc_list (K := K) (a := p) (xs := us.map f) (fun i => gNx [] H D (J D) i) ⟨[], Nat.zero_le _, Kp.refl.new hD, upd_same, h0 D hD⟩
    (fun i H' hi q => by
      obtain ⟨acc, _, q2, _⟩ := q
      exact SqL.of (q2.at0 hp)) (fun i x H' hx q => by
      rw [List.getElem?_map] at hx
      cases e : us[i]? with
      | none => rw [e] at hx; cases hx
      | some u =>
        rw [e] at hx
        cases hx
        obtain ⟨acc, q1, q2, q3, q4⟩ := q
        exact hs D i u acc H' hD e q1 q2 q3 q4) (fun H' q => by
      obtain ⟨acc, q1, q2, q3, q4⟩ := q
      rw [List.length_map] at q1 q4
      exact k D acc H' hD q1 q2 q3 q4)⟩
end
/-! ### unlike data -/
theorem eqvAll_len : ∀ {ds es : List PyData}, ds.length ≠ es.length → PyData.eqvAll ds es = false
  | [], [], h => absurd rfl h
  | [], e :: es, _ => by simp [PyData.eqvAll]
  | d :: ds, [], _ => by simp [PyData.eqvAll]
  | d :: ds, e :: es, h => by
    have := eqvAll_len (ds := ds) (es := es) (by simpa using h)
    simp [PyData.eqvAll, this]
theorem strI_ok {i : Int} (h : -1 ≤ i) : PyData.strOk (strI i) = true := by
  by_cases z : i = -1
  · subst z; decide +kernel
  · have hd := numL_digits i.toNat
    unfold PyData.strOk
    rw [Array.all_eq_true_iff_forall_mem]
    intro c hc
    have := hd c (by rw [← tl_strI (show 0 ≤ i by omega)]; exact Array.mem_toList_iff.mpr hc)
    simp; omega
/-! ### sums, all -/
section
variable {K : PySem.W.Frag} {H : Hp} {Q : VK} {p : Addr}
theorem w_sum {ns : List Int} (hp : H p = some (.lst (ns.map V.int))) (k : Q (.int ns.sum) H) : rSum K [.ref p] H Q := ⟨p, ns, rfl, SqL.of hp, k⟩
theorem w_all {bs : List Bool} (hp : H p = some (.lst (bs.map V.bl))) (k : Q (.bl (bs.all id)) H) : rAll K [.ref p] H Q := ⟨p, bs, rfl, SqL.of hp, k⟩
end
theorem w_inIT {i : Int} {us : List Int} {p : Addr} {H : Hp} {Q : VK} {K : PySem.W.Frag} (hp : H p = some (.tup (us.map V.int))) (k : Q (.bl (decide (i ∈ us))) H) : rIn K false (.int i) (.ref p) H Q :=
  ⟨p, _, rfl, .inr (.inl (.inl hp)), rfl, flat_int us, by rw [inV_int]; exact k⟩
end Lk
namespace Lk
open PySem PySem.Spec PyProof.Rows L2
local macro_rules | `(tactic| walk_at "hp") => `(tactic| first
  | assumption
  | exact upd_same
  | ((with_reducible show upd _ _ _ _ = _); first | exact upd_new (by assumption) (by walk_at "hp") | exact upd_get (by walk_at "ne") (by walk_at "hp") | exact upd_kind (by assumption) (by walk_at "hp") (by intro z; cases z))
  | exact Kp.at0 (by assumption) (by walk_at "hp")
  | exact Kp.at (by assumption) (by walk_at "hp") (by walk_at "nm"))
local macro_rules | `(tactic| walk_at "ne") => `(tactic| first
  | assumption
  | exact Ne.symm (by assumption)
  | exact ne_n (by assumption) (by walk_at "hp")
  | exact ne_n' (by assumption) (by walk_at "hp"))
local macro_rules | `(tactic| walk_at "nm") => `(tactic| first
  | exact List.not_mem_nil
  | (refine not_mem2 (by walk_at "ne") ?_; walk_at "nm"))
local macro_rules | `(tactic| walk_at "kp") => `(tactic| first
  | exact Kp.refl
  | assumption
  | (refine Kp.new ?_ (by assumption); walk_at "kp")
  | (refine Kp.mut ?_ (by simp); walk_at "kp")
  | (refine Kp.own ?_ (by walk_at "fr"); walk_at "kp")
  | (refine Kp.trans0 ?_ (by assumption); walk_at "kp")
  | (refine Kp.trans ?_ (by assumption); walk_at "kp"))
local macro_rules | `(tactic| walk_at "num") => `(tactic| first
  | omega
  | (simp only [sizeLine_eq, List.length_map, List.length_append, List.length_cons, List.length_nil, List.length_replicate, List.length_set, List.length_range, CMul, CDivN, CDiv, CPow]; omega)
  | decide)
local macro_rules | `(tactic| walk_at "put") => `(tactic| first
  | (with_reducible exact put_nil)
  | (with_reducible exact put_hit)
  | exact put_miss (by decide) (by walk_at "put"))
local macro_rules | `(tactic| walk_at "fr") => `(tactic| first
  | assumption
  | exact upd_nil (by assumption)
  | exact upd_nil (upd_nil (by assumption))
  | exact upd_nil (upd_nil (upd_nil (by assumption)))
  | exact upd_nil (upd_nil (upd_nil (upd_nil (by assumption))))
  | exact upd_nil (upd_nil (upd_nil (upd_nil (upd_nil (by assumption)))))
  | exact upd_nil (upd_nil (upd_nil (upd_nil (upd_nil (upd_nil (by assumption))))))
  | exact upd_nil (upd_nil (upd_nil (upd_nil (upd_nil (upd_nil (upd_nil (by assumption)))))))
  | exact upd_nil (upd_nil (upd_nil (upd_nil (upd_nil (upd_nil (upd_nil (upd_nil (by assumption))))))))
  | exact upd_nil (upd_nil (upd_nil (upd_nil (upd_nil (upd_nil (upd_nil (upd_nil (upd_nil (by assumption)))))))))
  | exact upd_nil (upd_nil (upd_nil (upd_nil (upd_nil (upd_nil (upd_nil (upd_nil (upd_nil (upd_nil (by assumption))))))))))
  | exact upd_nil (upd_nil (upd_nil (upd_nil (upd_nil (upd_nil (upd_nil (upd_nil (upd_nil (upd_nil (upd_nil (by assumption)))))))))))
  | exact Kp.free (by assumption) (by walk_at "fr"))
local macro_rules | `(tactic| walk_at "lg") => `(tactic| first
  | assumption
  | exact log2_small (by omega))
local macro_rules | `(tactic| walk_at "tst") => `(tactic| first
  | assumption
  | rfl
  | omega)
local macro_rules | `(tactic| walk_at "s") => `(tactic| with_reducible first
  | refine s_seq ?_
  | refine s_var (by with_unfolding_all rfl) ?_
  | refine s_c ?_
  | refine s_op ?_
  | refine s_cons ?_
  | refine s_nil ?_
  | refine s_asg ?_
  | refine s_name (by with_unfolding_all rfl) ?_
  | refine s_sub ?_
  | refine s_callS ?_
  | refine s_CB ?_
  | refine s_BM ?_
  | refine s_BM0 ?_
  | refine s_ret ?_
  | refine s_drop ?_
  | refine s_ifS ?_
  | refine s_B ?_
  | refine s_tru ?_
  | refine s_and ?_
  | refine s_or ?_
  | refine s_not ?_
  | refine s_andV ?_
  | refine s_orV ?_
  | refine s_notV ?_
  | refine s_if ?_
  | refine s_chain ?_
  | refine s_un ?_
  | refine s_lst ?_
  | refine s_tup ?_
  | refine s_sl ?_
  | refine s_nopart ?_
  | refine s_part ?_
  | refine s_next ?_
  | refine s_retN ?_
  | refine s_yes ?_
  | refine s_forR1 ?_
  | refine s_forR2 ?_
  | refine s_forL ?_
  | refine s_forE ?_
  | refine s_lcL ?_
  | refine s_lcR1 ?_
  | refine s_lcR2 ?_
  | refine s_lcE ?_
  | refine s_chain3 ?_
  | refine s_mkx ?_
  | refine s_xfR ?_
  | refine s_fld ?_
  | refine s_sfld ?_
  | refine s_methS ?_
  | refine s_makeS ?_
  | refine s_cval ?_
  | refine s_listRg ?_
  | refine s_lcV ?_
  | refine s_tB ?_
  | refine s_dnew ?_
  | refine s_din ?_
  | refine s_dnin ?_
  | refine s_dget ?_
  | refine s_dput ?_)
local macro_rules | `(tactic| walk_at "v") => `(tactic| first
  | ((with_reducible show rIx _ _ _ _ _); first  | (refine w_ixM (by walk_at "hp") (by walk_at "num") (by walk_at "num") ?_) | (refine w_ixQ (by assumption) (by walk_at "num") (by walk_at "num") ?_) | (refine w_ixL (by walk_at "hp") (by walk_at "num") (by first | rfl | assumption) ?_) | (refine w_ixT (by walk_at "hp") (by walk_at "num") (by first | rfl | assumption) ?_) | (refine w_ixNeg (by walk_at "hp") (by walk_at "num") (by walk_at "num") ?_))
  | (with_reducible refine w_I0 ?_)
  | ((with_reducible show rI _ _ _ _ _ _); first  | (refine w_I (by walk_at "num") ?_))
  | (with_reducible refine w_B ?_)
  | (with_reducible refine w_truB ?_)
  | (with_reducible refine w_addI ?_)
  | ((with_reducible show aAdd _ _ _ _); first  | (refine w_addL1 (by walk_at "hp") (by walk_at "hp") (by walk_at "num") ?_) | (refine w_addR1 (by walk_at "hp") (by walk_at "hp") (by walk_at "num") ?_) | (refine w_addLM (by walk_at "hp") (by walk_at "hp") (by walk_at "num") ?_) | (refine w_addL (by walk_at "hp") (by walk_at "hp") (by walk_at "num") ?_) | (refine w_addS (by walk_at "num") ?_))
  | (with_reducible refine w_eqI ?_)
  | (with_reducible refine w_neI ?_)
  | (with_reducible refine w_eqB ?_)
  | (with_reducible refine w_neB ?_)
  | (with_reducible refine w_eqS ?_)
  | (with_reducible refine w_neS ?_)
  | ((with_reducible show rIsG _ _ _ _ _ _ _); first  | (refine w_isG (by walk_at "hp") (by walk_at "ef") (by walk_at "et") ?_) | (refine w_isGv (by walk_at "hp") (by walk_at "ef") (by walk_at "et") ?_))
  | ((with_reducible show aXf _ _ _ _ _ _ _ _); first  | (refine w_xf (by walk_at "hp") (by walk_at "ef") (by walk_at "fi") (by rfl) ?_))
  | ((with_reducible show rIn _ false _ _ _ _); first  | (refine w_inI (by walk_at "hp") ?_) | (refine w_inS (by walk_at "hp") ?_) | (refine w_inB (by walk_at "hp") ?_))
  | ((with_reducible show rIn _ true _ _ _ _); first  | (refine w_notInI (by walk_at "hp") ?_) | (refine w_notInS (by walk_at "hp") ?_) | (refine w_notInB (by walk_at "hp") ?_))
  | ((with_reducible show aEq _ _ _ _ _); first  | (refine w_eqLI' (by walk_at "hp") (by walk_at "hp") ?_) | (refine w_eqLI0 (by walk_at "hp") (by walk_at "hp") ?_))
  | ((with_reducible show aNe _ _ _ _ _); first  | (refine w_neLI' (by walk_at "hp") (by walk_at "hp") ?_) | (refine w_neLI0 (by walk_at "hp") (by walk_at "hp") ?_))
  | (with_reducible refine w_truI ?_)
  | (with_reducible refine w_truN ?_)
  | ((with_reducible show aTru _ _ _ _); first  | (refine w_truL (by walk_at "hp") ?_) | (refine w_truT (by walk_at "hp") ?_))
  | ((with_reducible show rSetL _ _ _ _ _); first  | (refine w_setMI (by walk_at "hp") (by walk_at "num") (by walk_at "num") ?_) | (refine w_setMB (by walk_at "hp") (by walk_at "num") (by walk_at "num") ?_) | (refine w_setMS (by walk_at "hp") (by walk_at "num") (by walk_at "num") ?_) | (refine w_setL (by walk_at "hp") (by walk_at "num") (by walk_at "num") ?_))
  | ((with_reducible show aMul _ _ _ _); first  | (refine w_mulI (by walk_at "num") ?_) | (refine w_repI (by walk_at "hp") (by walk_at "num") (by walk_at "num") (by walk_at "num") ?_) | (refine w_repB (by walk_at "hp") (by walk_at "num") (by walk_at "num") (by walk_at "num") ?_))
  | ((with_reducible show tyV _ _ _ _ ∧ _); first  | (refine w_tyL (by walk_at "hp") ?_) | (refine w_tyS ?_))
  | ((with_reducible show rAppend _ _ _ _); first  | (refine w_appMI (by walk_at "hp") (by walk_at "num") ?_) | (refine w_appMS (by walk_at "hp") (by walk_at "num") ?_) | (refine w_appMB (by walk_at "hp") (by walk_at "num") ?_) | (refine w_appL (by walk_at "hp") (by walk_at "num") ?_))
  | ((with_reducible show rLen _ _ _ _); first  | (refine w_lenM (by walk_at "hp") ?_) | (refine w_lenQ (by assumption) ?_) | (refine w_lenL (by walk_at "hp") ?_) | (refine w_lenT (by walk_at "hp") ?_) | (refine w_lenS (by walk_at "num") ?_))
  | ((with_reducible show rSum _ _ _ _); first  | (refine w_sum (by walk_at "hp") ?_))
  | ((with_reducible show rAll _ _ _ _); first  | (refine w_all (by walk_at "hp") ?_))
  | ((with_reducible show rIsC _ _ _ _); first  | (refine w_isC (by walk_at "hp") ?_))
  | ((with_reducible show rTupOf _ _ _ _); first  | (refine w_tupOf (by walk_at "hp") ?_))
  | (with_reducible refine w_isB ?_)
  | (with_reducible refine w_notB ?_)
  | ((with_reducible show gTup _ _ _ _ _ _ _); first  | (refine w_gTup (by walk_at "hp") rfl ?_))
  | (with_reducible refine w_gCons ?_)
  | (with_reducible refine w_gNil ?_)
  | (with_reducible refine w_abs ?_)
  | (with_reducible refine w_int ?_)
  | ((with_reducible show _ ≤ sizeLine ∧ _); first  | (refine w_new (by walk_at "num") ?_))
  | (with_reducible refine w_U ?_)
  | ((with_reducible show rSlA _ _ _ _ _ _); first  | (refine w_slM (by walk_at "hp") ?_) | (refine w_slL (by walk_at "hp") ?_) | (refine w_slS (by walk_at "num") ?_) | (refine w_slQ (by assumption) ?_))
  | (with_reducible refine w_part ?_)
  | ((with_reducible show rListOf _ _ _ _); first  | (refine w_listL (by walk_at "hp") ?_) | (refine w_listT (by walk_at "hp") ?_))
  | ((with_reducible show rInsert _ _ _ _); first  | (refine w_insMI (by walk_at "hp") (by walk_at "num") (by walk_at "num") (by walk_at "num") ?_) | (refine w_insMS (by walk_at "hp") (by walk_at "num") (by walk_at "num") (by walk_at "num") ?_))
  | ((with_reducible show rReverse _ _ _ _); first  | (refine w_rev (by walk_at "hp") ?_))
  | ((with_reducible show rIsi _ _ _ _); first  | (with_reducible refine w_isiI kb_ii ?_) | (with_reducible refine w_isiI kb_ib ?_) | (with_reducible refine w_isiI kb_is ?_) | (with_reducible refine w_isiI kb_il ?_) | (with_reducible refine w_isiI kb_it ?_) | (with_reducible refine w_isiB kb_bi ?_) | (with_reducible refine w_isiB kb_bb ?_) | (with_reducible refine w_isiB kb_bt ?_) | (with_reducible refine w_isiS kb_ss ?_) | (with_reducible refine w_isiS kb_si ?_) | (with_reducible refine w_isiS kb_st ?_) | (with_reducible refine w_isiS kb_sl ?_) | (with_reducible refine w_isiN kb_nt ?_) | (with_reducible refine w_isiN kb_ni ?_) | (with_reducible refine w_isiN kb_nl ?_) | (with_reducible refine w_isiN kb_ns ?_) | (refine w_isiL (by walk_at "hp") kb_ll ?_) | (refine w_isiT (by walk_at "hp") kb_tt ?_) | (refine w_isiL (by walk_at "hp") kb_lt ?_) | (refine w_isiL (by walk_at "hp") kb_li ?_) | (refine w_isiT (by walk_at "hp") kb_tl ?_))
  | ((with_reducible show aFld _ _ _ _ _); first  | (refine w_fld (by walk_at "hp") (by walk_at "cl") (by walk_at "na") (by rfl) ?_))
  | ((with_reducible show aSFld _ _ _ _ _ _); first  | (refine w_sfld (by walk_at "hp") (by walk_at "cl") (by walk_at "na") (by simp) (by walk_at "put") ?_))
  | ((with_reducible show aMeth _ _ _ _ _); first  | (refine w_meth (by walk_at "hp") (by rfl) ?_))
  | ((with_reducible show aCVal _ _ _ _ _); first  | (refine w_cval (by walk_at "rd") (by walk_at "cv") ?_))
  | ((with_reducible show rJoin _ _ _ _ _); first  | (refine w_join (by walk_at "hp") (by walk_at "num") ?_))
  | ((with_reducible show rSplit _ _ _ _); first  | (refine w_split (by decide) (by walk_at "num") ?_))
  | ((with_reducible show aDIn _ _ _ _); first  | (refine w_dinI (by walk_at "hp") ?_))
  | ((with_reducible show aDNin _ _ _ _); first  | (refine w_dninI (by walk_at "hp") ?_))
  | ((with_reducible show aDPut _ _ _ _ _); first  | (refine w_dputI (by walk_at "hp") (by walk_at "num") ?_))
  | ((with_reducible show rPopAt _ _ _ _); first  | (refine w_popM (by walk_at "hp") (by walk_at "num") ?_))
  | (with_reducible refine w_digit ?_)
  | (with_reducible refine w_ascii ?_)
  | ((with_reducible show rIntA _ _ _); first  | (with_reducible refine w_intA ?_) | (with_reducible refine w_intB ?_))
  | ((with_reducible show rStrI _ _ _); first  | (refine w_strI (by walk_at "lg") ?_))
  | (with_reducible refine w_rngV ?_)
  | ((with_reducible show aRgL _ _ _ _); first  | (refine w_rgL ⟨(by walk_at "num"), (by walk_at "num"), (by walk_at "num"), (by walk_at "num"), (by walk_at "num")⟩ ?_))
  | (with_reducible refine w_max2 ?_)
  | (with_reducible refine w_min2 ?_)
  | ((with_reducible show aIsN _ _ _ _); first  | (with_reducible refine w_isN_n ?_) | (with_reducible refine w_isN_i ?_) | (with_reducible refine w_isN_r ?_) | (with_reducible refine w_isN_s ?_))
  | ((with_reducible show aNotN _ _ _ _); first  | (with_reducible refine w_notN_n ?_) | (with_reducible refine w_notN_i ?_) | (with_reducible refine w_notN_r ?_) | (with_reducible refine w_notN_s ?_)))
local macro_rules | `(tactic| walk_at "i") => `(tactic| first
  | (with_reducible refine w_ite1 ?_)
  | (with_reducible refine w_ite0 ?_)
  | ((with_reducible refine w_iteT ?_ ?_); (· walk_at "tst"))
  | ((with_reducible refine w_iteF ?_ ?_); (· walk_at "tst"))
  | ((with_reducible refine w_iteNT ?_ ?_); (· walk_at "tst"))
  | ((with_reducible refine w_iteNF ?_ ?_); (· walk_at "tst"))
  | ((with_reducible refine w_itebT ?_ ?_); (· walk_at "tst"))
  | ((with_reducible refine w_itebF ?_ ?_); (· walk_at "tst"))
  | ((with_reducible refine w_itenbT ?_ ?_); (· walk_at "tst"))
  | ((with_reducible refine w_itenbF ?_ ?_); (· walk_at "tst")))
local macro_rules | `(tactic| walk_at "w") => `(tactic| repeat (first | walk_at "s" | walk_at "v" | walk_at "i" | (with_reducible dsimp only)))
def top (i : Nat) : Stmt := PySem.Challenge.pw_latelink_k10_whole_verdicts_of_logs.main.body.getD i (.Pass ⟨0, 0, 0, 0⟩)
abbrev s_check_size : Stmt := top 13
abbrev s_check_operation : Stmt := top 14
abbrev s_check_log : Stmt := top 15
abbrev s__is_legal : Stmt := top 16
abbrev s_is_number : Stmt := top 17
abbrev s_check_gap : Stmt := top 19
abbrev s_left_holds : Stmt := top 20
abbrev s_right_holds : Stmt := top 21
abbrev s_gap_state : Stmt := top 22
abbrev s_gap_states : Stmt := top 23
abbrev s__numbers : Stmt := top 26
abbrev s__read_rights : Stmt := top 27
abbrev s__read_lefts : Stmt := top 28
abbrev s__read_outs : Stmt := top 29
abbrev s_replay : Stmt := top 32
abbrev s_moments : Stmt := top 34
abbrev s_writers : Stmt := top 35
abbrev s_decided_by : Stmt := top 36
abbrev s_verdict : Stmt := top 39
abbrev s_gap_certificate : Stmt := top 40
abbrev s__is_integer : Stmt := top 41
abbrev s_is_gap_certificate : Stmt := top 42
abbrev s__law_bag : Stmt := top 44
abbrev s__law_draw : Stmt := top 45
abbrev s__law_size : Stmt := top 46
abbrev s__law_whole : Stmt := top 47
abbrev s__law_planted : Stmt := top 48
abbrev s__law_log : Stmt := top 49
abbrev s__law_state : Stmt := top 50
abbrev s__law_step : Stmt := top 51
abbrev s__law_whole_number : Stmt := top 52
abbrev s__law_numbers : Stmt := top 53
abbrev s__law_number_or_none : Stmt := top 54
abbrev s__law_book : Stmt := top 55
abbrev s__law_bears : Stmt := top 56
abbrev s__law_verdict_fits : Stmt := top 57
abbrev s__law_made : Stmt := top 58
abbrev s__law_is_paper : Stmt := top 59
abbrev s__law_bents : Stmt := top 60
abbrev s__law_judged : Stmt := top 61
abbrev s__law_papers_fit : Stmt := top 62
abbrev s__law_agrees : Stmt := top 63
abbrev s__law_fault : Stmt := top 64
abbrev s__law_spoilt : Stmt := top 65
abbrev s__law_trials : Stmt := top 66
abbrev s__law_places : Stmt := top 67
abbrev s__law_answer : Stmt := top 68
abbrev s__law_refuses : Stmt := top 69
abbrev s_law : Stmt := top 70
abbrev s_BadOperation___init__ : Stmt := inClass (top 4) 0
abbrev s_Illegal___init__ : Stmt := inClass (top 5) 0
abbrev s_BadSize___init__ : Stmt := inClass (top 6) 0
abbrev s_BadNode___init__ : Stmt := inClass (top 7) 0
abbrev s_BadGap___init__ : Stmt := inClass (top 8) 0
abbrev s_BadDump___init__ : Stmt := inClass (top 9) 0
abbrev s_Links___init__ : Stmt := inClass (top 30) 1
abbrev s_Links_built : Stmt := inClass (top 30) 2
abbrev s_Links_read : Stmt := inClass (top 30) 3
abbrev s_Links_left : Stmt := inClass (top 30) 4
abbrev s_Links_right : Stmt := inClass (top 30) 5
abbrev s_Links_is_out : Stmt := inClass (top 30) 6
abbrev s_Links_outs : Stmt := inClass (top 30) 7
abbrev s_Links_operation_on : Stmt := inClass (top 30) 8
abbrev s_Links_apply : Stmt := inClass (top 30) 9
abbrev s_Links_apply_at : Stmt := inClass (top 30) 10
abbrev s_Links_walk : Stmt := inClass (top 30) 11
abbrev s_Links_walk_back : Stmt := inClass (top 30) 12
abbrev s_Links_is_sound : Stmt := inClass (top 30) 13
abbrev s_Links_is_whole : Stmt := inClass (top 30) 14
abbrev s_Links_copy : Stmt := inClass (top 30) 15
abbrev s_Links_dump : Stmt := inClass (top 30) 16
abbrev s_Links__dump_parts : Stmt := inClass (top 30) 17
abbrev s_Links___str__ : Stmt := inClass (top 30) 18
abbrev s_Links___len__ : Stmt := inClass (top 30) 19
abbrev s_Links___contains__ : Stmt := inClass (top 30) 20
abbrev s_Links___eq__ : Stmt := inClass (top 30) 21
abbrev s_Verdict___init__ : Stmt := inClass (top 38) 0
/-- where things stand -/
structure AD where
  f_check_size : Addr
  f_check_operation : Addr
  f_check_log : Addr
  f__is_legal : Addr
  f_check_gap : Addr
  f_left_holds : Addr
  f_right_holds : Addr
  f_gap_state : Addr
  f_gap_states : Addr
  f_replay : Addr
  f_moments : Addr
  f_writers : Addr
  f_decided_by : Addr
  f_verdict : Addr
  f_gap_certificate : Addr
  f__is_integer : Addr
  f_is_gap_certificate : Addr
  f__law_bag : Addr
  f__law_draw : Addr
  f__law_size : Addr
  f__law_whole : Addr
  f__law_planted : Addr
  f__law_log : Addr
  f__law_state : Addr
  f__law_step : Addr
  f__law_whole_number : Addr
  f__law_numbers : Addr
  f__law_number_or_none : Addr
  f__law_book : Addr
  f__law_bears : Addr
  f__law_verdict_fits : Addr
  f__law_made : Addr
  f__law_is_paper : Addr
  f__law_bents : Addr
  f__law_judged : Addr
  f__law_papers_fit : Addr
  f__law_agrees : Addr
  f__law_fault : Addr
  f__law_spoilt : Addr
  f__law_trials : Addr
  f__law_places : Addr
  f__law_answer : Addr
  f__law_refuses : Addr
  f_law : Addr
  f_Links___init__ : Addr
  f_Links_left : Addr
  f_Links_right : Addr
  f_Links_outs : Addr
  f_Links_apply_at : Addr
  f_Verdict___init__ : Addr
  Links : Addr
  Verdict : Addr
  LinkError : Addr
  LogError : Addr
  BadOperation : Addr
  i_BadOperation : Addr
  Illegal : Addr
  i_Illegal : Addr
  BadSize : Addr
  i_BadSize : Addr
  BadNode : Addr
  i_BadNode : Addr
  BadGap : Addr
  i_BadGap : Addr
  BadDump : Addr
  i_BadDump : Addr
structure Txt (P : Program) (K : PySem.W.Frag) (mg : Str → Option Value) (a : AD) : Prop where
  n_check_size : Nm K mg "check_size" a.f_check_size
  F_check_size : ∃ fd, Fun K "check_size" "check_size" s_check_size a.f_check_size fd ∧ Binds K fd ["size"] []
  n_check_operation : Nm K mg "check_operation" a.f_check_operation
  F_check_operation : ∃ fd, Fun K "check_operation" "check_operation" s_check_operation a.f_check_operation fd ∧ Binds K fd ["size", "operation", "index"] []
  n_check_log : Nm K mg "check_log" a.f_check_log
  F_check_log : ∃ fd, Fun K "check_log" "check_log" s_check_log a.f_check_log fd ∧ Binds K fd ["size", "log"] []
  n__is_legal : Nm K mg "_is_legal" a.f__is_legal
  F__is_legal : ∃ fd, Fun K "_is_legal" "_is_legal" s__is_legal a.f__is_legal fd ∧ Binds K fd ["flags", "operation"] []
  n_check_gap : Nm K mg "check_gap" a.f_check_gap
  F_check_gap : ∃ fd, Fun K "check_gap" "check_gap" s_check_gap a.f_check_gap fd ∧ Binds K fd ["size", "gap"] []
  n_left_holds : Nm K mg "left_holds" a.f_left_holds
  F_left_holds : ∃ fd, Fun K "left_holds" "left_holds" s_left_holds a.f_left_holds fd ∧ Binds K fd ["links", "gap"] []
  n_right_holds : Nm K mg "right_holds" a.f_right_holds
  F_right_holds : ∃ fd, Fun K "right_holds" "right_holds" s_right_holds a.f_right_holds fd ∧ Binds K fd ["links", "gap"] []
  n_gap_state : Nm K mg "gap_state" a.f_gap_state
  F_gap_state : ∃ fd, Fun K "gap_state" "gap_state" s_gap_state a.f_gap_state fd ∧ Binds K fd ["links", "gap"] []
  n_gap_states : Nm K mg "gap_states" a.f_gap_states
  F_gap_states : ∃ fd, Fun K "gap_states" "gap_states" s_gap_states a.f_gap_states fd ∧ Binds K fd ["links"] []
  n_replay : Nm K mg "replay" a.f_replay
  F_replay : ∃ fd, Fun K "replay" "replay" s_replay a.f_replay fd ∧ Binds K fd ["size", "log"] []
  n_moments : Nm K mg "moments" a.f_moments
  F_moments : ∃ fd, Fun K "moments" "moments" s_moments a.f_moments fd ∧ Binds K fd ["size", "log"] []
  n_writers : Nm K mg "writers" a.f_writers
  F_writers : ∃ fd, Fun K "writers" "writers" s_writers a.f_writers fd ∧ Binds K fd ["size", "log"] []
  n_decided_by : Nm K mg "decided_by" a.f_decided_by
  F_decided_by : ∃ fd, Fun K "decided_by" "decided_by" s_decided_by a.f_decided_by fd ∧ Binds K fd ["size", "log", "gap"] []
  n_verdict : Nm K mg "verdict" a.f_verdict
  F_verdict : ∃ fd, Fun K "verdict" "verdict" s_verdict a.f_verdict fd ∧ Binds K fd ["size", "log"] []
  n_gap_certificate : Nm K mg "gap_certificate" a.f_gap_certificate
  F_gap_certificate : ∃ fd, Fun K "gap_certificate" "gap_certificate" s_gap_certificate a.f_gap_certificate fd ∧ Binds K fd ["size", "log", "gap"] []
  n__is_integer : Nm K mg "_is_integer" a.f__is_integer
  F__is_integer : ∃ fd, Fun K "_is_integer" "_is_integer" s__is_integer a.f__is_integer fd ∧ Binds K fd ["value"] []
  n_is_gap_certificate : Nm K mg "is_gap_certificate" a.f_is_gap_certificate
  F_is_gap_certificate : ∃ fd, Fun K "is_gap_certificate" "is_gap_certificate" s_is_gap_certificate a.f_is_gap_certificate fd ∧ Binds K fd ["size", "log", "gap", "value"] []
  n__law_bag : Nm K mg "_law_bag" a.f__law_bag
  F__law_bag : ∃ fd, Fun K "_law_bag" "_law_bag" s__law_bag a.f__law_bag fd ∧ Binds K fd ["_law_script", "_law_lane"] []
  n__law_draw : Nm K mg "_law_draw" a.f__law_draw
  F__law_draw : ∃ fd, Fun K "_law_draw" "_law_draw" s__law_draw a.f__law_draw fd ∧ Binds K fd ["_law_bag_here", "_law_many"] []
  n__law_size : Nm K mg "_law_size" a.f__law_size
  F__law_size : ∃ fd, Fun K "_law_size" "_law_size" s__law_size a.f__law_size fd ∧ Binds K fd ["_law_bag_here"] []
  n__law_whole : Nm K mg "_law_whole" a.f__law_whole
  F__law_whole : ∃ fd, Fun K "_law_whole" "_law_whole" s__law_whole a.f__law_whole fd ∧ Binds K fd ["_law_size_here"] []
  n__law_planted : Nm K mg "_law_planted" a.f__law_planted
  F__law_planted : ∃ fd, Fun K "_law_planted" "_law_planted" s__law_planted a.f__law_planted fd ∧ Binds K fd ["_law_bag_here", "_law_size_here"] []
  n__law_log : Nm K mg "_law_log" a.f__law_log
  F__law_log : ∃ fd, Fun K "_law_log" "_law_log" s__law_log a.f__law_log fd ∧ Binds K fd ["_law_bag_here", "_law_size_here"] []
  n__law_state : Nm K mg "_law_state" a.f__law_state
  F__law_state : ∃ fd, Fun K "_law_state" "_law_state" s__law_state a.f__law_state fd ∧ Binds K fd ["_law_world", "_law_place"] []
  n__law_step : Nm K mg "_law_step" a.f__law_step
  F__law_step : ∃ fd, Fun K "_law_step" "_law_step" s__law_step a.f__law_step fd ∧ Binds K fd ["_law_world", "_law_deed"] []
  n__law_whole_number : Nm K mg "_law_whole_number" a.f__law_whole_number
  F__law_whole_number : ∃ fd, Fun K "_law_whole_number" "_law_whole_number" s__law_whole_number a.f__law_whole_number fd ∧ Binds K fd ["_law_told"] []
  n__law_numbers : Nm K mg "_law_numbers" a.f__law_numbers
  F__law_numbers : ∃ fd, Fun K "_law_numbers" "_law_numbers" s__law_numbers a.f__law_numbers fd ∧ Binds K fd ["_law_told", "_law_due"] []
  n__law_number_or_none : Nm K mg "_law_number_or_none" a.f__law_number_or_none
  F__law_number_or_none : ∃ fd, Fun K "_law_number_or_none" "_law_number_or_none" s__law_number_or_none a.f__law_number_or_none fd ∧ Binds K fd ["_law_told", "_law_due"] []
  n__law_book : Nm K mg "_law_book" a.f__law_book
  F__law_book : ∃ fd, Fun K "_law_book" "_law_book" s__law_book a.f__law_book fd ∧ Binds K fd ["_law_size_here", "_law_deeds"] []
  n__law_bears : Nm K mg "_law_bears" a.f__law_bears
  F__law_bears : ∃ fd, Fun K "_law_bears" "_law_bears" s__law_bears a.f__law_bears fd ∧ Binds K fd ["_law_told", "_law_gone", "_law_place", "_law_k"] []
  n__law_verdict_fits : Nm K mg "_law_verdict_fits" a.f__law_verdict_fits
  F__law_verdict_fits : ∃ fd, Fun K "_law_verdict_fits" "_law_verdict_fits" s__law_verdict_fits a.f__law_verdict_fits fd ∧ Binds K fd ["_law_told", "_law_book_here"] []
  n__law_made : Nm K mg "_law_made" a.f__law_made
  F__law_made : ∃ fd, Fun K "_law_made" "_law_made" s__law_made a.f__law_made fd ∧ Binds K fd ["_law_gone", "_law_place", "_law_k"] []
  n__law_is_paper : Nm K mg "_law_is_paper" a.f__law_is_paper
  F__law_is_paper : ∃ fd, Fun K "_law_is_paper" "_law_is_paper" s__law_is_paper a.f__law_is_paper fd ∧ Binds K fd ["_law_told", "_law_due"] []
  n__law_bents : Nm K mg "_law_bents" a.f__law_bents
  F__law_bents : ∃ fd, Fun K "_law_bents" "_law_bents" s__law_bents a.f__law_bents fd ∧ Binds K fd ["_law_due", "_law_other", "_law_by"] []
  n__law_judged : Nm K mg "_law_judged" a.f__law_judged
  F__law_judged : ∃ fd, Fun K "_law_judged" "_law_judged" s__law_judged a.f__law_judged fd ∧ Binds K fd ["_law_size_here", "_law_deeds", "_law_place", "_law_value", "_law_due"] []
  n__law_papers_fit : Nm K mg "_law_papers_fit" a.f__law_papers_fit
  F__law_papers_fit : ∃ fd, Fun K "_law_papers_fit" "_law_papers_fit" s__law_papers_fit a.f__law_papers_fit fd ∧ Binds K fd ["_law_size_here", "_law_deeds", "_law_places_here", "_law_papers", "_law_bag_here"] []
  n__law_agrees : Nm K mg "_law_agrees" a.f__law_agrees
  F__law_agrees : ∃ fd, Fun K "_law_agrees" "_law_agrees" s__law_agrees a.f__law_agrees fd ∧ Binds K fd ["_law_size_here", "_law_deeds", "_law_places_here", "_law_bag_here"] []
  n__law_fault : Nm K mg "_law_fault" a.f__law_fault
  F__law_fault : ∃ fd, Fun K "_law_fault" "_law_fault" s__law_fault a.f__law_fault fd ∧ Binds K fd ["_law_size_here", "_law_deeds", "_law_place"] []
  n__law_spoilt : Nm K mg "_law_spoilt" a.f__law_spoilt
  F__law_spoilt : ∃ fd, Fun K "_law_spoilt" "_law_spoilt" s__law_spoilt a.f__law_spoilt fd ∧ Binds K fd ["_law_bag_here", "_law_size_here", "_law_deeds"] []
  n__law_trials : Nm K mg "_law_trials" a.f__law_trials
  F__law_trials : ∃ fd, Fun K "_law_trials" "_law_trials" s__law_trials a.f__law_trials fd ∧ Binds K fd ["_law_bag_here", "_law_size_here", "_law_deeds"] []
  n__law_places : Nm K mg "_law_places" a.f__law_places
  F__law_places : ∃ fd, Fun K "_law_places" "_law_places" s__law_places a.f__law_places fd ∧ Binds K fd ["_law_bag_here", "_law_size_here", "_law_deeds"] []
  n__law_answer : Nm K mg "_law_answer" a.f__law_answer
  F__law_answer : ∃ fd, Fun K "_law_answer" "_law_answer" s__law_answer a.f__law_answer fd ∧ Binds K fd ["_law_way", "_law_size_here", "_law_deeds", "_law_place"] []
  n__law_refuses : Nm K mg "_law_refuses" a.f__law_refuses
  F__law_refuses : ∃ fd, Fun K "_law_refuses" "_law_refuses" s__law_refuses a.f__law_refuses fd ∧ Binds K fd ["_law_trials_here"] []
  n_law : Nm K mg "law" a.f_law
  F_law : ∃ fd, Fun K "law" "law" s_law a.f_law fd ∧ Binds K fd ["_law_script"] []
  c_Links : mg "Links" = some (.ref a.Links)
  cl_Links : Cls K a.Links
  mk_Links : Mk K a.Links a.f_Links___init__
  rd_Links : ClX.CRead K a.Links (.type "type")
  na_Links_size : NoAttr K a.Links "size"
  na_Links__lefts : NoAttr K a.Links "_lefts"
  na_Links__rights : NoAttr K a.Links "_rights"
  na_Links__flags : NoAttr K a.Links "_flags"
  cv_Links_MOST : ∃ t, ClX.CVal K a.Links (.type "type") "MOST" (.int 60) (.int 60 t)
  c_Verdict : mg "Verdict" = some (.ref a.Verdict)
  cl_Verdict : Cls K a.Verdict
  in_Verdict : C8.InsC K a.Verdict
  mk_Verdict : Mk K a.Verdict a.f_Verdict___init__
  rd_Verdict : ClX.CRead K a.Verdict (.type "type")
  na_Verdict_out_nodes : NoAttr K a.Verdict "out_nodes"
  na_Verdict_gap : NoAttr K a.Verdict "gap"
  na_Verdict_index : NoAttr K a.Verdict "index"
  na_Verdict_whole : NoAttr K a.Verdict "whole"
  F_Links___init__ : ∃ fd, Fun K "__init__" "Links.__init__" s_Links___init__ a.f_Links___init__ fd ∧ Binds K fd ["self", "size"] []
  me_Links_left : Meth K a.Links "left" a.f_Links_left
  F_Links_left : ∃ fd, Fun K "left" "Links.left" s_Links_left a.f_Links_left fd ∧ Binds K fd ["self", "node"] []
  me_Links_right : Meth K a.Links "right" a.f_Links_right
  F_Links_right : ∃ fd, Fun K "right" "Links.right" s_Links_right a.f_Links_right fd ∧ Binds K fd ["self", "node"] []
  me_Links_outs : Meth K a.Links "outs" a.f_Links_outs
  F_Links_outs : ∃ fd, Fun K "outs" "Links.outs" s_Links_outs a.f_Links_outs fd ∧ Binds K fd ["self"] []
  me_Links_apply_at : Meth K a.Links "apply_at" a.f_Links_apply_at
  F_Links_apply_at : ∃ fd, Fun K "apply_at" "Links.apply_at" s_Links_apply_at a.f_Links_apply_at fd ∧ Binds K fd ["self", "operation", "index"] []
  F_Verdict___init__ : ∃ fd, Fun K "__init__" "Verdict.__init__" s_Verdict___init__ a.f_Verdict___init__ fd ∧ Binds K fd ["self", "out_nodes", "gap", "index"] []
  c_LinkError : mg "LinkError" = some (.ref a.LinkError)
  c_LogError : mg "LogError" = some (.ref a.LogError)
  c_BadOperation : mg "BadOperation" = some (.ref a.BadOperation)
  x_BadOperation : LkX.ExcTxt P K a.BadOperation a.i_BadOperation ["operation", "index"]
  e_BadOperation : ExcC K a.BadOperation ∧ XfC K a.BadOperation
  c_Illegal : mg "Illegal" = some (.ref a.Illegal)
  x_Illegal : LkX.ExcTxt P K a.Illegal a.i_Illegal ["operation", "index"]
  e_Illegal : ExcC K a.Illegal ∧ XfC K a.Illegal
  c_BadSize : mg "BadSize" = some (.ref a.BadSize)
  x_BadSize : LkX.ExcTxt P K a.BadSize a.i_BadSize ["size"]
  e_BadSize : ExcC K a.BadSize ∧ XfC K a.BadSize
  c_BadNode : mg "BadNode" = some (.ref a.BadNode)
  x_BadNode : LkX.ExcTxt P K a.BadNode a.i_BadNode ["node"]
  e_BadNode : ExcC K a.BadNode ∧ XfC K a.BadNode
  c_BadGap : mg "BadGap" = some (.ref a.BadGap)
  x_BadGap : LkX.ExcTxt P K a.BadGap a.i_BadGap ["gap"]
  e_BadGap : ExcC K a.BadGap ∧ XfC K a.BadGap
  c_BadDump : mg "BadDump" = some (.ref a.BadDump)
  x_BadDump : LkX.ExcTxt P K a.BadDump a.i_BadDump ["part"]
  e_BadDump : ExcC K a.BadDump ∧ XfC K a.BadDump
  t_BadOperation_LinkError : PySem.W.kitOne K (.ref a.BadOperation) (.ref a.LinkError) = some true ∧ PySem.W.exmOne K (.ref a.BadOperation) (.ref a.LinkError) = some true
  t_BadOperation_LogError : PySem.W.kitOne K (.ref a.BadOperation) (.ref a.LogError) = some true ∧ PySem.W.exmOne K (.ref a.BadOperation) (.ref a.LogError) = some true
  t_BadOperation_BadOperation : PySem.W.kitOne K (.ref a.BadOperation) (.ref a.BadOperation) = some true ∧ PySem.W.exmOne K (.ref a.BadOperation) (.ref a.BadOperation) = some true
  t_BadOperation_Illegal : PySem.W.kitOne K (.ref a.BadOperation) (.ref a.Illegal) = some false ∧ PySem.W.exmOne K (.ref a.BadOperation) (.ref a.Illegal) = some false
  t_BadOperation_BadSize : PySem.W.kitOne K (.ref a.BadOperation) (.ref a.BadSize) = some false ∧ PySem.W.exmOne K (.ref a.BadOperation) (.ref a.BadSize) = some false
  t_BadOperation_BadNode : PySem.W.kitOne K (.ref a.BadOperation) (.ref a.BadNode) = some false ∧ PySem.W.exmOne K (.ref a.BadOperation) (.ref a.BadNode) = some false
  t_BadOperation_BadGap : PySem.W.kitOne K (.ref a.BadOperation) (.ref a.BadGap) = some false ∧ PySem.W.exmOne K (.ref a.BadOperation) (.ref a.BadGap) = some false
  t_BadOperation_BadDump : PySem.W.kitOne K (.ref a.BadOperation) (.ref a.BadDump) = some false ∧ PySem.W.exmOne K (.ref a.BadOperation) (.ref a.BadDump) = some false
  v_BadOperation : PySem.W.kitOne K (.ref a.BadOperation) (.type "ValueError") = some true
  t_Illegal_LinkError : PySem.W.kitOne K (.ref a.Illegal) (.ref a.LinkError) = some true ∧ PySem.W.exmOne K (.ref a.Illegal) (.ref a.LinkError) = some true
  t_Illegal_LogError : PySem.W.kitOne K (.ref a.Illegal) (.ref a.LogError) = some true ∧ PySem.W.exmOne K (.ref a.Illegal) (.ref a.LogError) = some true
  t_Illegal_BadOperation : PySem.W.kitOne K (.ref a.Illegal) (.ref a.BadOperation) = some false ∧ PySem.W.exmOne K (.ref a.Illegal) (.ref a.BadOperation) = some false
  t_Illegal_Illegal : PySem.W.kitOne K (.ref a.Illegal) (.ref a.Illegal) = some true ∧ PySem.W.exmOne K (.ref a.Illegal) (.ref a.Illegal) = some true
  t_Illegal_BadSize : PySem.W.kitOne K (.ref a.Illegal) (.ref a.BadSize) = some false ∧ PySem.W.exmOne K (.ref a.Illegal) (.ref a.BadSize) = some false
  t_Illegal_BadNode : PySem.W.kitOne K (.ref a.Illegal) (.ref a.BadNode) = some false ∧ PySem.W.exmOne K (.ref a.Illegal) (.ref a.BadNode) = some false
  t_Illegal_BadGap : PySem.W.kitOne K (.ref a.Illegal) (.ref a.BadGap) = some false ∧ PySem.W.exmOne K (.ref a.Illegal) (.ref a.BadGap) = some false
  t_Illegal_BadDump : PySem.W.kitOne K (.ref a.Illegal) (.ref a.BadDump) = some false ∧ PySem.W.exmOne K (.ref a.Illegal) (.ref a.BadDump) = some false
  v_Illegal : PySem.W.kitOne K (.ref a.Illegal) (.type "ValueError") = some true
  t_BadSize_LinkError : PySem.W.kitOne K (.ref a.BadSize) (.ref a.LinkError) = some true ∧ PySem.W.exmOne K (.ref a.BadSize) (.ref a.LinkError) = some true
  t_BadSize_LogError : PySem.W.kitOne K (.ref a.BadSize) (.ref a.LogError) = some false ∧ PySem.W.exmOne K (.ref a.BadSize) (.ref a.LogError) = some false
  t_BadSize_BadOperation : PySem.W.kitOne K (.ref a.BadSize) (.ref a.BadOperation) = some false ∧ PySem.W.exmOne K (.ref a.BadSize) (.ref a.BadOperation) = some false
  t_BadSize_Illegal : PySem.W.kitOne K (.ref a.BadSize) (.ref a.Illegal) = some false ∧ PySem.W.exmOne K (.ref a.BadSize) (.ref a.Illegal) = some false
  t_BadSize_BadSize : PySem.W.kitOne K (.ref a.BadSize) (.ref a.BadSize) = some true ∧ PySem.W.exmOne K (.ref a.BadSize) (.ref a.BadSize) = some true
  t_BadSize_BadNode : PySem.W.kitOne K (.ref a.BadSize) (.ref a.BadNode) = some false ∧ PySem.W.exmOne K (.ref a.BadSize) (.ref a.BadNode) = some false
  t_BadSize_BadGap : PySem.W.kitOne K (.ref a.BadSize) (.ref a.BadGap) = some false ∧ PySem.W.exmOne K (.ref a.BadSize) (.ref a.BadGap) = some false
  t_BadSize_BadDump : PySem.W.kitOne K (.ref a.BadSize) (.ref a.BadDump) = some false ∧ PySem.W.exmOne K (.ref a.BadSize) (.ref a.BadDump) = some false
  v_BadSize : PySem.W.kitOne K (.ref a.BadSize) (.type "ValueError") = some true
  t_BadNode_LinkError : PySem.W.kitOne K (.ref a.BadNode) (.ref a.LinkError) = some true ∧ PySem.W.exmOne K (.ref a.BadNode) (.ref a.LinkError) = some true
  t_BadNode_LogError : PySem.W.kitOne K (.ref a.BadNode) (.ref a.LogError) = some false ∧ PySem.W.exmOne K (.ref a.BadNode) (.ref a.LogError) = some false
  t_BadNode_BadOperation : PySem.W.kitOne K (.ref a.BadNode) (.ref a.BadOperation) = some false ∧ PySem.W.exmOne K (.ref a.BadNode) (.ref a.BadOperation) = some false
  t_BadNode_Illegal : PySem.W.kitOne K (.ref a.BadNode) (.ref a.Illegal) = some false ∧ PySem.W.exmOne K (.ref a.BadNode) (.ref a.Illegal) = some false
  t_BadNode_BadSize : PySem.W.kitOne K (.ref a.BadNode) (.ref a.BadSize) = some false ∧ PySem.W.exmOne K (.ref a.BadNode) (.ref a.BadSize) = some false
  t_BadNode_BadNode : PySem.W.kitOne K (.ref a.BadNode) (.ref a.BadNode) = some true ∧ PySem.W.exmOne K (.ref a.BadNode) (.ref a.BadNode) = some true
  t_BadNode_BadGap : PySem.W.kitOne K (.ref a.BadNode) (.ref a.BadGap) = some false ∧ PySem.W.exmOne K (.ref a.BadNode) (.ref a.BadGap) = some false
  t_BadNode_BadDump : PySem.W.kitOne K (.ref a.BadNode) (.ref a.BadDump) = some false ∧ PySem.W.exmOne K (.ref a.BadNode) (.ref a.BadDump) = some false
  v_BadNode : PySem.W.kitOne K (.ref a.BadNode) (.type "ValueError") = some true
  t_BadGap_LinkError : PySem.W.kitOne K (.ref a.BadGap) (.ref a.LinkError) = some true ∧ PySem.W.exmOne K (.ref a.BadGap) (.ref a.LinkError) = some true
  t_BadGap_LogError : PySem.W.kitOne K (.ref a.BadGap) (.ref a.LogError) = some false ∧ PySem.W.exmOne K (.ref a.BadGap) (.ref a.LogError) = some false
  t_BadGap_BadOperation : PySem.W.kitOne K (.ref a.BadGap) (.ref a.BadOperation) = some false ∧ PySem.W.exmOne K (.ref a.BadGap) (.ref a.BadOperation) = some false
  t_BadGap_Illegal : PySem.W.kitOne K (.ref a.BadGap) (.ref a.Illegal) = some false ∧ PySem.W.exmOne K (.ref a.BadGap) (.ref a.Illegal) = some false
  t_BadGap_BadSize : PySem.W.kitOne K (.ref a.BadGap) (.ref a.BadSize) = some false ∧ PySem.W.exmOne K (.ref a.BadGap) (.ref a.BadSize) = some false
  t_BadGap_BadNode : PySem.W.kitOne K (.ref a.BadGap) (.ref a.BadNode) = some false ∧ PySem.W.exmOne K (.ref a.BadGap) (.ref a.BadNode) = some false
  t_BadGap_BadGap : PySem.W.kitOne K (.ref a.BadGap) (.ref a.BadGap) = some true ∧ PySem.W.exmOne K (.ref a.BadGap) (.ref a.BadGap) = some true
  t_BadGap_BadDump : PySem.W.kitOne K (.ref a.BadGap) (.ref a.BadDump) = some false ∧ PySem.W.exmOne K (.ref a.BadGap) (.ref a.BadDump) = some false
  v_BadGap : PySem.W.kitOne K (.ref a.BadGap) (.type "ValueError") = some true
  t_BadDump_LinkError : PySem.W.kitOne K (.ref a.BadDump) (.ref a.LinkError) = some true ∧ PySem.W.exmOne K (.ref a.BadDump) (.ref a.LinkError) = some true
  t_BadDump_LogError : PySem.W.kitOne K (.ref a.BadDump) (.ref a.LogError) = some false ∧ PySem.W.exmOne K (.ref a.BadDump) (.ref a.LogError) = some false
  t_BadDump_BadOperation : PySem.W.kitOne K (.ref a.BadDump) (.ref a.BadOperation) = some false ∧ PySem.W.exmOne K (.ref a.BadDump) (.ref a.BadOperation) = some false
  t_BadDump_Illegal : PySem.W.kitOne K (.ref a.BadDump) (.ref a.Illegal) = some false ∧ PySem.W.exmOne K (.ref a.BadDump) (.ref a.Illegal) = some false
  t_BadDump_BadSize : PySem.W.kitOne K (.ref a.BadDump) (.ref a.BadSize) = some false ∧ PySem.W.exmOne K (.ref a.BadDump) (.ref a.BadSize) = some false
  t_BadDump_BadNode : PySem.W.kitOne K (.ref a.BadDump) (.ref a.BadNode) = some false ∧ PySem.W.exmOne K (.ref a.BadDump) (.ref a.BadNode) = some false
  t_BadDump_BadGap : PySem.W.kitOne K (.ref a.BadDump) (.ref a.BadGap) = some false ∧ PySem.W.exmOne K (.ref a.BadDump) (.ref a.BadGap) = some false
  t_BadDump_BadDump : PySem.W.kitOne K (.ref a.BadDump) (.ref a.BadDump) = some true ∧ PySem.W.exmOne K (.ref a.BadDump) (.ref a.BadDump) = some true
  v_BadDump : PySem.W.kitOne K (.ref a.BadDump) (.type "ValueError") = some true
  b_ValueError : mg "ValueError" = none
  b_enumerate : mg "enumerate" = none
  b_range : mg "range" = none
  b_abs : mg "abs" = none
  b_list : mg "list" = none
  b_int : mg "int" = none
  b_len : mg "len" = none
  b_isinstance : mg "isinstance" = none
  b_min : mg "min" = none
  b_bool : mg "bool" = none
  b_str : mg "str" = none
  b_tuple : mg "tuple" = none
  b_super : mg "super" = none
  k_MOST_NODES : ∃ t, mg "MOST_NODES" = some (.int 60 t)
  k_MOST_DIGITS : ∃ t, mg "MOST_DIGITS" = some (.int 9 t)
  k_PARTS : ∃ t, mg "PARTS" = some (.int 3 t)
def xBadOperation (a : AD) (v0 : V) (v1 : V) (E : XK) (H : Hp) : Prop := ∀ d H', H d = none → H' d = some (.xd [("operation", v0), ("index", v1)]) → Kp [] H H' → E (.ref a.BadOperation) (some d) H'
def xIllegal (a : AD) (v0 : V) (v1 : V) (E : XK) (H : Hp) : Prop := ∀ d H', H d = none → H' d = some (.xd [("operation", v0), ("index", v1)]) → Kp [] H H' → E (.ref a.Illegal) (some d) H'
def xBadSize (a : AD) (v0 : V) (E : XK) (H : Hp) : Prop := ∀ d H', H d = none → H' d = some (.xd [("size", v0)]) → Kp [] H H' → E (.ref a.BadSize) (some d) H'
def xBadNode (a : AD) (v0 : V) (E : XK) (H : Hp) : Prop := ∀ d H', H d = none → H' d = some (.xd [("node", v0)]) → Kp [] H H' → E (.ref a.BadNode) (some d) H'
def xBadGap (a : AD) (v0 : V) (E : XK) (H : Hp) : Prop := ∀ d H', H d = none → H' d = some (.xd [("gap", v0)]) → Kp [] H H' → E (.ref a.BadGap) (some d) H'
def xBadDump (a : AD) (v0 : V) (E : XK) (H : Hp) : Prop := ∀ d H', H d = none → H' d = some (.xd [("part", v0)]) → Kp [] H H' → E (.ref a.BadDump) (some d) H'
local macro_rules | `(tactic| walk_at "ef") => `(tactic| with_reducible first | exact (Txt.e_BadOperation (by assumption)).1 | exact (Txt.e_BadOperation (by assumption)).2 | exact (Txt.e_Illegal (by assumption)).1 | exact (Txt.e_Illegal (by assumption)).2 | exact (Txt.e_BadSize (by assumption)).1 | exact (Txt.e_BadSize (by assumption)).2 | exact (Txt.e_BadNode (by assumption)).1 | exact (Txt.e_BadNode (by assumption)).2 | exact (Txt.e_BadGap (by assumption)).1 | exact (Txt.e_BadGap (by assumption)).2 | exact (Txt.e_BadDump (by assumption)).1 | exact (Txt.e_BadDump (by assumption)).2)
local macro_rules | `(tactic| walk_at "et") => `(tactic| with_reducible first | exact Txt.v_BadOperation (by assumption) | exact (Txt.t_BadOperation_LinkError (by assumption)).1 | exact (Txt.t_BadOperation_LogError (by assumption)).1 | exact (Txt.t_BadOperation_BadOperation (by assumption)).1 | exact (Txt.t_BadOperation_Illegal (by assumption)).1 | exact (Txt.t_BadOperation_BadSize (by assumption)).1 | exact (Txt.t_BadOperation_BadNode (by assumption)).1 | exact (Txt.t_BadOperation_BadGap (by assumption)).1 | exact (Txt.t_BadOperation_BadDump (by assumption)).1 | exact Txt.v_Illegal (by assumption) | exact (Txt.t_Illegal_LinkError (by assumption)).1 | exact (Txt.t_Illegal_LogError (by assumption)).1 | exact (Txt.t_Illegal_BadOperation (by assumption)).1 | exact (Txt.t_Illegal_Illegal (by assumption)).1 | exact (Txt.t_Illegal_BadSize (by assumption)).1 | exact (Txt.t_Illegal_BadNode (by assumption)).1 | exact (Txt.t_Illegal_BadGap (by assumption)).1 | exact (Txt.t_Illegal_BadDump (by assumption)).1 | exact Txt.v_BadSize (by assumption) | exact (Txt.t_BadSize_LinkError (by assumption)).1 | exact (Txt.t_BadSize_LogError (by assumption)).1 | exact (Txt.t_BadSize_BadOperation (by assumption)).1 | exact (Txt.t_BadSize_Illegal (by assumption)).1 | exact (Txt.t_BadSize_BadSize (by assumption)).1 | exact (Txt.t_BadSize_BadNode (by assumption)).1 | exact (Txt.t_BadSize_BadGap (by assumption)).1 | exact (Txt.t_BadSize_BadDump (by assumption)).1 | exact Txt.v_BadNode (by assumption) | exact (Txt.t_BadNode_LinkError (by assumption)).1 | exact (Txt.t_BadNode_LogError (by assumption)).1 | exact (Txt.t_BadNode_BadOperation (by assumption)).1 | exact (Txt.t_BadNode_Illegal (by assumption)).1 | exact (Txt.t_BadNode_BadSize (by assumption)).1 | exact (Txt.t_BadNode_BadNode (by assumption)).1 | exact (Txt.t_BadNode_BadGap (by assumption)).1 | exact (Txt.t_BadNode_BadDump (by assumption)).1 | exact Txt.v_BadGap (by assumption) | exact (Txt.t_BadGap_LinkError (by assumption)).1 | exact (Txt.t_BadGap_LogError (by assumption)).1 | exact (Txt.t_BadGap_BadOperation (by assumption)).1 | exact (Txt.t_BadGap_Illegal (by assumption)).1 | exact (Txt.t_BadGap_BadSize (by assumption)).1 | exact (Txt.t_BadGap_BadNode (by assumption)).1 | exact (Txt.t_BadGap_BadGap (by assumption)).1 | exact (Txt.t_BadGap_BadDump (by assumption)).1 | exact Txt.v_BadDump (by assumption) | exact (Txt.t_BadDump_LinkError (by assumption)).1 | exact (Txt.t_BadDump_LogError (by assumption)).1 | exact (Txt.t_BadDump_BadOperation (by assumption)).1 | exact (Txt.t_BadDump_Illegal (by assumption)).1 | exact (Txt.t_BadDump_BadSize (by assumption)).1 | exact (Txt.t_BadDump_BadNode (by assumption)).1 | exact (Txt.t_BadDump_BadGap (by assumption)).1 | exact (Txt.t_BadDump_BadDump (by assumption)).1)
local macro_rules | `(tactic| walk_at "fi") => `(tactic| with_reducible first | exact (Txt.x_BadOperation (by assumption)).noN _ (by decide) | exact (Txt.x_Illegal (by assumption)).noN _ (by decide) | exact (Txt.x_BadSize (by assumption)).noN _ (by decide) | exact (Txt.x_BadNode (by assumption)).noN _ (by decide) | exact (Txt.x_BadGap (by assumption)).noN _ (by decide) | exact (Txt.x_BadDump (by assumption)).noN _ (by decide))
local macro_rules | `(tactic| walk_at "cl") => `(tactic| with_reducible first | exact Txt.cl_Links (by assumption) | exact Txt.cl_Verdict (by assumption))
local macro_rules | `(tactic| walk_at "na") => `(tactic| with_reducible first | exact Txt.na_Links_size (by assumption) | exact Txt.na_Links__lefts (by assumption) | exact Txt.na_Links__rights (by assumption) | exact Txt.na_Links__flags (by assumption) | exact Txt.na_Verdict_out_nodes (by assumption) | exact Txt.na_Verdict_gap (by assumption) | exact Txt.na_Verdict_index (by assumption) | exact Txt.na_Verdict_whole (by assumption))
local macro_rules | `(tactic| walk_at "rd") => `(tactic| with_reducible first | exact Txt.rd_Links (by assumption) | exact Txt.rd_Verdict (by assumption))
local macro_rules | `(tactic| walk_at "cv") => `(tactic| with_reducible first | exact (Txt.cv_Links_MOST (by assumption)).choose_spec)
/-! ### what the checks ask -/
def IsOp (n o : Int) : Prop := o ≠ 0 ∧ (o.natAbs : Int) ≤ n
instance (n o : Int) : Decidable (IsOp n o) := inferInstanceAs (Decidable (_ ∧ _))
def sp_check_size (a : AD) : Sp := fun vs H Q E => ∃ n : Int, vs = [.int n] ∧ (¬(0 ≤ n ∧ n ≤ 60) → xBadSize a (.int n) E H) ∧ (0 ≤ n → n ≤ 60 → Q .non H)
def sp_check_operation (a : AD) : Sp := fun vs H Q E => ∃ n o i : Int, vs = [.int n, .int o, .int i] ∧ (¬IsOp n o → xBadOperation a (.int o) (.int i) E H) ∧ (IsOp n o → Q .non H)
theorem sc_check_size : FnScope ["size"] ["size"] (defScope s_check_size) := ⟨rfl, rfl, rfl, by decide +kernel, rfl, by decide +kernel, by decide +kernel⟩
theorem ok_check_size {P : Program} {w : World} {K : PySem.W.Frag} {mg : Str → Option Value} {base : Heap} {a : AD} (T : Txt P K mg a) : FnA P w K mg base 2 a.f_check_size ["size"] (sp_check_size a) := by
  obtain ⟨fd, F, b⟩ := T.F_check_size
  refine FnA.of F sc_check_size b (fun vs H Q E h => by first | (obtain ⟨rfl, _⟩ := h; rfl) | (obtain ⟨_, rfl, _⟩ := h; rfl) | (obtain ⟨_, _, rfl, _⟩ := h; rfl) | (obtain ⟨_, _, _, rfl, _⟩ := h; rfl) | (obtain ⟨_, _, _, _, rfl, _⟩ := h; rfl) | (obtain ⟨_, _, _, _, _, rfl, _⟩ := h; rfl) | (obtain ⟨_, _, _, _, _, _, rfl, _⟩ := h; rfl) | (obtain ⟨_, _, _, _, _, _, _, rfl, _⟩ := h; rfl) | (obtain ⟨_, _, _, _, _, _, _, _, rfl, _⟩ := h; rfl) | (obtain ⟨_, _, _, _, _, _, _, _, _, rfl, _⟩ := h; rfl) | (obtain ⟨_, _, _, _, _, _, _, _, _, _, rfl, _⟩ := h; rfl) | (obtain ⟨_, _, _, _, _, _, _, _, _, _, _, rfl, _⟩ := h; rfl) | (obtain ⟨_, _, _, _, _, _, _, _, _, _, _, _, rfl, _⟩ := h; rfl) | (obtain ⟨_, _, _, _, _, _, _, _, _, _, _, _, _, rfl, _⟩ := h; rfl) | (obtain ⟨_, _, _, _, _, _, _, _, _, _, _, _, _, _, rfl, _⟩ := h; rfl) | (obtain ⟨_, _, _, _, _, _, _, _, _, _, _, _, _, _, _, rfl, _⟩ := h; rfl) | (obtain ⟨_, _, _, _, _, _, _, _, _, _, _, _, _, _, _, _, rfl, _⟩ := h; rfl) | (obtain ⟨_, _, _, _, _, _, _, _, _, _, _, _, _, _, _, _, _, rfl, _⟩ := h; rfl) | (obtain ⟨_, _, _, _, _, _, _, _, _, _, _, _, _, _, _, _, _, _, rfl, _⟩ := h; rfl) | (obtain ⟨_, _, _, _, _, _, _, _, _, _, _, _, _, _, _, _, _, _, _, rfl, _⟩ := h; rfl) | (obtain ⟨_, _, _, _, _, _, _, _, _, _, _, _, _, _, _, _, _, _, _, _, rfl, _⟩ := h; rfl) | (obtain ⟨_, _, _, _, _, _, _, _, _, _, _, _, _, _, _, _, _, _, _, _, _, rfl, _⟩ := h; rfl) | (obtain ⟨_, _, _, _, _, _, _, _, _, _, _, _, _, _, _, _, _, _, _, _, _, _, rfl, _⟩ := h; rfl) | (obtain ⟨_, _, _, _, _, _, _, _, _, _, _, _, _, _, _, _, _, _, _, _, _, _, _, rfl, _⟩ := h; rfl)) (fun cdv A outer s H vs Q E hr tk pz h => ?_)
  have hu := hr.units
  have hrH := L2H.roomH_of hr
  obtain ⟨n, rfl, h1, h2⟩ := h
  refine ⟨_, (pss_one (ps_if (pt_not (pt_chainA op_le op_le pe_int (pv 0) (T.k_MOST_NODES.elim fun t hm => pe_glob (v := .int 60) rfl hm ⟨t, rfl⟩))) (pss_one (L2N.ps_raise rfl tk (Lk.pmk_own T.x_BadSize (List.cons_ne_nil _ _) hr T.c_BadSize (by exact (pa_cons (pv 0) pa_nil)) rfl))) pss_nil)), ?_⟩
  show (_ : Ends → L2.St → Hp → Prop) _ [some _] _
  try dsimp only [L2H.cxH, cxOf]
  walk_at "w"
  refine w_ite (fun c1 => ?_) (fun c1 => ?_)
  · walk_at "w"
    refine w_iteN (fun c2 => ?_) (fun c2 => ?_)
    · walk_at "w"
      refine ⟨rfl, fun d hd => h1 (fun z => c2 z.2) d _ hd upd_same (Kp.refl.new hd)⟩
    · walk_at "w"
      exact h2 c1 c2
  · walk_at "w"
    refine ⟨rfl, fun d hd => h1 (fun z => c1 z.1) d _ hd upd_same (Kp.refl.new hd)⟩
theorem sc_check_operation : FnScope ["size", "operation", "index"] ["size", "operation", "index"] (defScope s_check_operation) := ⟨rfl, rfl, rfl, by decide +kernel, rfl, by decide +kernel, by decide +kernel⟩
theorem ok_check_operation {P : Program} {w : World} {K : PySem.W.Frag} {mg : Str → Option Value} {base : Heap} {a : AD} (T : Txt P K mg a) : FnA P w K mg base 2 a.f_check_operation ["size", "operation", "index"] (sp_check_operation a) := by
  obtain ⟨fd, F, b⟩ := T.F_check_operation
  refine FnA.of F sc_check_operation b (fun vs H Q E h => by first | (obtain ⟨rfl, _⟩ := h; rfl) | (obtain ⟨_, rfl, _⟩ := h; rfl) | (obtain ⟨_, _, rfl, _⟩ := h; rfl) | (obtain ⟨_, _, _, rfl, _⟩ := h; rfl) | (obtain ⟨_, _, _, _, rfl, _⟩ := h; rfl) | (obtain ⟨_, _, _, _, _, rfl, _⟩ := h; rfl) | (obtain ⟨_, _, _, _, _, _, rfl, _⟩ := h; rfl) | (obtain ⟨_, _, _, _, _, _, _, rfl, _⟩ := h; rfl) | (obtain ⟨_, _, _, _, _, _, _, _, rfl, _⟩ := h; rfl) | (obtain ⟨_, _, _, _, _, _, _, _, _, rfl, _⟩ := h; rfl) | (obtain ⟨_, _, _, _, _, _, _, _, _, _, rfl, _⟩ := h; rfl) | (obtain ⟨_, _, _, _, _, _, _, _, _, _, _, rfl, _⟩ := h; rfl) | (obtain ⟨_, _, _, _, _, _, _, _, _, _, _, _, rfl, _⟩ := h; rfl) | (obtain ⟨_, _, _, _, _, _, _, _, _, _, _, _, _, rfl, _⟩ := h; rfl) | (obtain ⟨_, _, _, _, _, _, _, _, _, _, _, _, _, _, rfl, _⟩ := h; rfl) | (obtain ⟨_, _, _, _, _, _, _, _, _, _, _, _, _, _, _, rfl, _⟩ := h; rfl) | (obtain ⟨_, _, _, _, _, _, _, _, _, _, _, _, _, _, _, _, rfl, _⟩ := h; rfl) | (obtain ⟨_, _, _, _, _, _, _, _, _, _, _, _, _, _, _, _, _, rfl, _⟩ := h; rfl) | (obtain ⟨_, _, _, _, _, _, _, _, _, _, _, _, _, _, _, _, _, _, rfl, _⟩ := h; rfl) | (obtain ⟨_, _, _, _, _, _, _, _, _, _, _, _, _, _, _, _, _, _, _, rfl, _⟩ := h; rfl) | (obtain ⟨_, _, _, _, _, _, _, _, _, _, _, _, _, _, _, _, _, _, _, _, rfl, _⟩ := h; rfl) | (obtain ⟨_, _, _, _, _, _, _, _, _, _, _, _, _, _, _, _, _, _, _, _, _, rfl, _⟩ := h; rfl) | (obtain ⟨_, _, _, _, _, _, _, _, _, _, _, _, _, _, _, _, _, _, _, _, _, _, rfl, _⟩ := h; rfl) | (obtain ⟨_, _, _, _, _, _, _, _, _, _, _, _, _, _, _, _, _, _, _, _, _, _, _, rfl, _⟩ := h; rfl)) (fun cdv A outer s H vs Q E hr tk pz h => ?_)
  have hu := hr.units
  have hrH := L2H.roomH_of hr
  obtain ⟨n, o, i, rfl, h1, h2⟩ := h
  refine ⟨_, (pss_one (ps_if (PW.pt (pw_or (pt_cmpA (o_eq hu) (pv 1) pe_int (nomark _)) (pw_or1 (pt_cmpA op_gt (pe_callB (b_abs) rfl T.b_abs (by decide +kernel) (pa_cons (pv 1) pa_nil)) (pv 0) (nomark _))))) (pss_one (L2N.ps_raise rfl tk (Lk.pmk_own T.x_BadOperation (List.cons_ne_nil _ _) hr T.c_BadOperation (by exact (pa_cons (pv 1) (pa_cons (pv 2) pa_nil))) rfl))) pss_nil)), ?_⟩
  show (_ : Ends → L2.St → Hp → Prop) _ [some _, some _, some _] _
  try dsimp only [L2H.cxH, cxOf]
  walk_at "w"
  refine w_ite (fun c1 => ?_) (fun c1 => ?_)
  · walk_at "w"
    refine ⟨rfl, fun d hd => h1 (fun z => z.1 c1) d _ hd upd_same (Kp.refl.new hd)⟩
  · walk_at "w"
    refine w_ite (fun c2 => ?_) (fun c2 => ?_)
    · walk_at "w"
      refine ⟨rfl, fun d hd => h1 (fun z => by have := z.2; omega) d _ hd upd_same (Kp.refl.new hd)⟩
    · walk_at "w"
      exact h2 ⟨c1, by omega⟩
def sp_check_gap (a : AD) : Sp := fun vs H Q E => ∃ n g : Int, vs = [.int n, .int g] ∧ (¬(0 ≤ g ∧ g ≤ n) → xBadGap a (.int g) E H) ∧ (0 ≤ g → g ≤ n → Q .non H)
theorem sc_check_gap : FnScope ["size", "gap"] ["size", "gap"] (defScope s_check_gap) := ⟨rfl, rfl, rfl, by decide +kernel, rfl, by decide +kernel, by decide +kernel⟩
theorem ok_check_gap {P : Program} {w : World} {K : PySem.W.Frag} {mg : Str → Option Value} {base : Heap} {a : AD} (T : Txt P K mg a) : FnA P w K mg base 2 a.f_check_gap ["size", "gap"] (sp_check_gap a) := by
  obtain ⟨fd, F, b⟩ := T.F_check_gap
  refine FnA.of F sc_check_gap b (fun vs H Q E h => by first | (obtain ⟨rfl, _⟩ := h; rfl) | (obtain ⟨_, rfl, _⟩ := h; rfl) | (obtain ⟨_, _, rfl, _⟩ := h; rfl) | (obtain ⟨_, _, _, rfl, _⟩ := h; rfl) | (obtain ⟨_, _, _, _, rfl, _⟩ := h; rfl) | (obtain ⟨_, _, _, _, _, rfl, _⟩ := h; rfl) | (obtain ⟨_, _, _, _, _, _, rfl, _⟩ := h; rfl) | (obtain ⟨_, _, _, _, _, _, _, rfl, _⟩ := h; rfl) | (obtain ⟨_, _, _, _, _, _, _, _, rfl, _⟩ := h; rfl) | (obtain ⟨_, _, _, _, _, _, _, _, _, rfl, _⟩ := h; rfl) | (obtain ⟨_, _, _, _, _, _, _, _, _, _, rfl, _⟩ := h; rfl) | (obtain ⟨_, _, _, _, _, _, _, _, _, _, _, rfl, _⟩ := h; rfl) | (obtain ⟨_, _, _, _, _, _, _, _, _, _, _, _, rfl, _⟩ := h; rfl) | (obtain ⟨_, _, _, _, _, _, _, _, _, _, _, _, _, rfl, _⟩ := h; rfl) | (obtain ⟨_, _, _, _, _, _, _, _, _, _, _, _, _, _, rfl, _⟩ := h; rfl) | (obtain ⟨_, _, _, _, _, _, _, _, _, _, _, _, _, _, _, rfl, _⟩ := h; rfl) | (obtain ⟨_, _, _, _, _, _, _, _, _, _, _, _, _, _, _, _, rfl, _⟩ := h; rfl) | (obtain ⟨_, _, _, _, _, _, _, _, _, _, _, _, _, _, _, _, _, rfl, _⟩ := h; rfl) | (obtain ⟨_, _, _, _, _, _, _, _, _, _, _, _, _, _, _, _, _, _, rfl, _⟩ := h; rfl) | (obtain ⟨_, _, _, _, _, _, _, _, _, _, _, _, _, _, _, _, _, _, _, rfl, _⟩ := h; rfl) | (obtain ⟨_, _, _, _, _, _, _, _, _, _, _, _, _, _, _, _, _, _, _, _, rfl, _⟩ := h; rfl) | (obtain ⟨_, _, _, _, _, _, _, _, _, _, _, _, _, _, _, _, _, _, _, _, _, rfl, _⟩ := h; rfl) | (obtain ⟨_, _, _, _, _, _, _, _, _, _, _, _, _, _, _, _, _, _, _, _, _, _, rfl, _⟩ := h; rfl) | (obtain ⟨_, _, _, _, _, _, _, _, _, _, _, _, _, _, _, _, _, _, _, _, _, _, _, rfl, _⟩ := h; rfl)) (fun cdv A outer s H vs Q E hr tk pz h => ?_)
  have hu := hr.units
  have hrH := L2H.roomH_of hr
  obtain ⟨n, g, rfl, h1, h2⟩ := h
  refine ⟨_, (pss_one (ps_if (pt_not (pt_chainA op_le op_le pe_int (pv 1) (pv 0))) (pss_one (L2N.ps_raise rfl tk (Lk.pmk_own T.x_BadGap (List.cons_ne_nil _ _) hr T.c_BadGap (by exact (pa_cons (pv 1) pa_nil)) rfl))) pss_nil)), ?_⟩
  show (_ : Ends → L2.St → Hp → Prop) _ [some _, some _] _
  try dsimp only [L2H.cxH, cxOf]
  walk_at "w"
  refine w_ite (fun c1 => ?_) (fun c1 => ?_)
  · walk_at "w"
    refine w_iteN (fun c2 => ?_) (fun c2 => ?_)
    · walk_at "w"
      refine ⟨rfl, fun d hd => h1 (fun z => c2 z.2) d _ hd upd_same (Kp.refl.new hd)⟩
    · walk_at "w"
      exact h2 c1 c2
  · walk_at "w"
    refine ⟨rfl, fun d hd => h1 (fun z => c1 z.1) d _ hd upd_same (Kp.refl.new hd)⟩
/-! ### a Links object -/
/-- the object at x, its three lists at l, r, f -/
def Lnk (a : AD) (H : Hp) (x l r f : Addr) (n : Int) (L R : List Int) (F : List Bool) : Prop :=
  (∃ dx, H x = some (.ins a.Links dx [("size", .int n), ("_lefts", .ref l), ("_rights", .ref r), ("_flags", .ref f)])) ∧ H l = some (.lst (L.map V.int)) ∧ H r = some (.lst (R.map V.int)) ∧ H f = some (.lst (F.map V.bl)) ∧ l ≠ r ∧ l ≠ f ∧ r ≠ f
theorem Lnk.kp {a : AD} {ms : List Addr} {H H' : Hp} {x l r f : Addr} {n : Int} {L R : List Int} {F : List Bool} (h : Lnk a H x l r f n L R F) (k : Kp ms H H') (hx : x ∉ ms) (hl : l ∉ ms) (hr : r ∉ ms) (hf : f ∉ ms) : Lnk a H' x l r f n L R F := by
  obtain ⟨⟨dx, h1⟩, h2, h3, h4, h5⟩ := h
  exact ⟨⟨dx, k.at h1 hx⟩, k.at h2 hl, k.at h3 hr, k.at h4 hf, h5⟩
theorem Lnk.kp0 {a : AD} {H H' : Hp} {x l r f : Addr} {n : Int} {L R : List Int} {F : List Bool} (h : Lnk a H x l r f n L R F) (k : Kp [] H H') : Lnk a H' x l r f n L R F := h.kp k List.not_mem_nil List.not_mem_nil List.not_mem_nil List.not_mem_nil
def sp_Links_left (a : AD) : Sp := fun vs H Q E => ∃ (x l r f : Addr) (n v : Int) (L R : List Int) (F : List Bool), vs = [.ref x, .int v] ∧ Lnk a H x l r f n L R F ∧ L.length = (n + 2).toNat ∧ (¬(1 ≤ v ∧ v ≤ n + 1) → xBadNode a (.int v) E H) ∧ (1 ≤ v → v ≤ n + 1 → Q (.int (L.getD v.toNat default)) H)
theorem sc_Links_left : FnScope ["self", "node"] ["self", "node"] (defScope s_Links_left) := ⟨rfl, rfl, rfl, by decide +kernel, rfl, by decide +kernel, by decide +kernel⟩
theorem ok_Links_left {P : Program} {w : World} {K : PySem.W.Frag} {mg : Str → Option Value} {base : Heap} {a : AD} (T : Txt P K mg a) : FnA P w K mg base 2 a.f_Links_left ["self", "node"] (sp_Links_left a) := by
  obtain ⟨fd, F, b⟩ := T.F_Links_left
  refine FnA.of F sc_Links_left b (fun vs H Q E h => by first | (obtain ⟨rfl, _⟩ := h; rfl) | (obtain ⟨_, rfl, _⟩ := h; rfl) | (obtain ⟨_, _, rfl, _⟩ := h; rfl) | (obtain ⟨_, _, _, rfl, _⟩ := h; rfl) | (obtain ⟨_, _, _, _, rfl, _⟩ := h; rfl) | (obtain ⟨_, _, _, _, _, rfl, _⟩ := h; rfl) | (obtain ⟨_, _, _, _, _, _, rfl, _⟩ := h; rfl) | (obtain ⟨_, _, _, _, _, _, _, rfl, _⟩ := h; rfl) | (obtain ⟨_, _, _, _, _, _, _, _, rfl, _⟩ := h; rfl) | (obtain ⟨_, _, _, _, _, _, _, _, _, rfl, _⟩ := h; rfl) | (obtain ⟨_, _, _, _, _, _, _, _, _, _, rfl, _⟩ := h; rfl) | (obtain ⟨_, _, _, _, _, _, _, _, _, _, _, rfl, _⟩ := h; rfl) | (obtain ⟨_, _, _, _, _, _, _, _, _, _, _, _, rfl, _⟩ := h; rfl) | (obtain ⟨_, _, _, _, _, _, _, _, _, _, _, _, _, rfl, _⟩ := h; rfl) | (obtain ⟨_, _, _, _, _, _, _, _, _, _, _, _, _, _, rfl, _⟩ := h; rfl) | (obtain ⟨_, _, _, _, _, _, _, _, _, _, _, _, _, _, _, rfl, _⟩ := h; rfl) | (obtain ⟨_, _, _, _, _, _, _, _, _, _, _, _, _, _, _, _, rfl, _⟩ := h; rfl) | (obtain ⟨_, _, _, _, _, _, _, _, _, _, _, _, _, _, _, _, _, rfl, _⟩ := h; rfl) | (obtain ⟨_, _, _, _, _, _, _, _, _, _, _, _, _, _, _, _, _, _, rfl, _⟩ := h; rfl) | (obtain ⟨_, _, _, _, _, _, _, _, _, _, _, _, _, _, _, _, _, _, _, rfl, _⟩ := h; rfl) | (obtain ⟨_, _, _, _, _, _, _, _, _, _, _, _, _, _, _, _, _, _, _, _, rfl, _⟩ := h; rfl) | (obtain ⟨_, _, _, _, _, _, _, _, _, _, _, _, _, _, _, _, _, _, _, _, _, rfl, _⟩ := h; rfl) | (obtain ⟨_, _, _, _, _, _, _, _, _, _, _, _, _, _, _, _, _, _, _, _, _, _, rfl, _⟩ := h; rfl) | (obtain ⟨_, _, _, _, _, _, _, _, _, _, _, _, _, _, _, _, _, _, _, _, _, _, _, rfl, _⟩ := h; rfl)) (fun cdv A outer s H vs Q E hr tk pz h => ?_)
  have hu := hr.units
  have hrH := L2H.roomH_of hr
  obtain ⟨x, l, r, f, n, v, L, R, F, rfl, ⟨⟨dx, hx⟩, hl, hr', hf, _⟩, hL, h1, h2⟩ := h
  refine ⟨_, (pss_cons (ps_if (pt_not (pt_chainA op_le op_le pe_int (pv 1) (pe_op o_add (pe_fld (pv 0) rfl) pe_int))) (pss_one (L2N.ps_raise rfl tk (Lk.pmk_own T.x_BadNode (List.cons_ne_nil _ _) hr T.c_BadNode (by exact (pa_cons (pv 1) pa_nil)) rfl))) pss_nil)
      (pss_one (ps_ret (pe_ix ix_seq (pe_fld (pv 0) rfl) (pv 1) (fun _ _ => rfl))))), ?_⟩
  show (_ : Ends → L2.St → Hp → Prop) _ [some _, some _] _
  try dsimp only [L2H.cxH, cxOf]
  walk_at "w"
  refine w_ite (fun c1 => ?_) (fun c1 => ?_)
  · walk_at "w"
    refine w_iteN (fun c2 => ?_) (fun c2 => ?_)
    · walk_at "w"
      refine ⟨rfl, fun d hd => h1 (fun z => c2 z.2) d _ hd upd_same (Kp.refl.new hd)⟩
    · walk_at "w"
      exact h2 c1 c2
  · walk_at "w"
    refine ⟨rfl, fun d hd => h1 (fun z => c1 z.1) d _ hd upd_same (Kp.refl.new hd)⟩
def sp_Links_right (a : AD) : Sp := fun vs H Q E => ∃ (x l r f : Addr) (n v : Int) (L R : List Int) (F : List Bool), vs = [.ref x, .int v] ∧ Lnk a H x l r f n L R F ∧ R.length = (n + 2).toNat ∧ (¬(0 ≤ v ∧ v ≤ n) → xBadNode a (.int v) E H) ∧ (0 ≤ v → v ≤ n → Q (.int (R.getD v.toNat default)) H)
theorem sc_Links_right : FnScope ["self", "node"] ["self", "node"] (defScope s_Links_right) := ⟨rfl, rfl, rfl, by decide +kernel, rfl, by decide +kernel, by decide +kernel⟩
theorem ok_Links_right {P : Program} {w : World} {K : PySem.W.Frag} {mg : Str → Option Value} {base : Heap} {a : AD} (T : Txt P K mg a) : FnA P w K mg base 2 a.f_Links_right ["self", "node"] (sp_Links_right a) := by
  obtain ⟨fd, F, b⟩ := T.F_Links_right
  refine FnA.of F sc_Links_right b (fun vs H Q E h => by first | (obtain ⟨rfl, _⟩ := h; rfl) | (obtain ⟨_, rfl, _⟩ := h; rfl) | (obtain ⟨_, _, rfl, _⟩ := h; rfl) | (obtain ⟨_, _, _, rfl, _⟩ := h; rfl) | (obtain ⟨_, _, _, _, rfl, _⟩ := h; rfl) | (obtain ⟨_, _, _, _, _, rfl, _⟩ := h; rfl) | (obtain ⟨_, _, _, _, _, _, rfl, _⟩ := h; rfl) | (obtain ⟨_, _, _, _, _, _, _, rfl, _⟩ := h; rfl) | (obtain ⟨_, _, _, _, _, _, _, _, rfl, _⟩ := h; rfl) | (obtain ⟨_, _, _, _, _, _, _, _, _, rfl, _⟩ := h; rfl) | (obtain ⟨_, _, _, _, _, _, _, _, _, _, rfl, _⟩ := h; rfl) | (obtain ⟨_, _, _, _, _, _, _, _, _, _, _, rfl, _⟩ := h; rfl) | (obtain ⟨_, _, _, _, _, _, _, _, _, _, _, _, rfl, _⟩ := h; rfl) | (obtain ⟨_, _, _, _, _, _, _, _, _, _, _, _, _, rfl, _⟩ := h; rfl) | (obtain ⟨_, _, _, _, _, _, _, _, _, _, _, _, _, _, rfl, _⟩ := h; rfl) | (obtain ⟨_, _, _, _, _, _, _, _, _, _, _, _, _, _, _, rfl, _⟩ := h; rfl) | (obtain ⟨_, _, _, _, _, _, _, _, _, _, _, _, _, _, _, _, rfl, _⟩ := h; rfl) | (obtain ⟨_, _, _, _, _, _, _, _, _, _, _, _, _, _, _, _, _, rfl, _⟩ := h; rfl) | (obtain ⟨_, _, _, _, _, _, _, _, _, _, _, _, _, _, _, _, _, _, rfl, _⟩ := h; rfl) | (obtain ⟨_, _, _, _, _, _, _, _, _, _, _, _, _, _, _, _, _, _, _, rfl, _⟩ := h; rfl) | (obtain ⟨_, _, _, _, _, _, _, _, _, _, _, _, _, _, _, _, _, _, _, _, rfl, _⟩ := h; rfl) | (obtain ⟨_, _, _, _, _, _, _, _, _, _, _, _, _, _, _, _, _, _, _, _, _, rfl, _⟩ := h; rfl) | (obtain ⟨_, _, _, _, _, _, _, _, _, _, _, _, _, _, _, _, _, _, _, _, _, _, rfl, _⟩ := h; rfl) | (obtain ⟨_, _, _, _, _, _, _, _, _, _, _, _, _, _, _, _, _, _, _, _, _, _, _, rfl, _⟩ := h; rfl)) (fun cdv A outer s H vs Q E hr tk pz h => ?_)
  have hu := hr.units
  have hrH := L2H.roomH_of hr
  obtain ⟨x, l, r, f, n, v, L, R, F, rfl, ⟨⟨dx, hx⟩, hl, hr', hf, _⟩, hL, h1, h2⟩ := h
  refine ⟨_, (pss_cons (ps_if (pt_not (pt_chainA op_le op_le pe_int (pv 1) (pe_fld (pv 0) rfl))) (pss_one (L2N.ps_raise rfl tk (Lk.pmk_own T.x_BadNode (List.cons_ne_nil _ _) hr T.c_BadNode (by exact (pa_cons (pv 1) pa_nil)) rfl))) pss_nil)
      (pss_one (ps_ret (pe_ix ix_seq (pe_fld (pv 0) rfl) (pv 1) (fun _ _ => rfl))))), ?_⟩
  show (_ : Ends → L2.St → Hp → Prop) _ [some _, some _] _
  try dsimp only [L2H.cxH, cxOf]
  walk_at "w"
  refine w_ite (fun c1 => ?_) (fun c1 => ?_)
  · walk_at "w"
    refine w_iteN (fun c2 => ?_) (fun c2 => ?_)
    · walk_at "w"
      refine ⟨rfl, fun d hd => h1 (fun z => c2 z.2) d _ hd upd_same (Kp.refl.new hd)⟩
    · walk_at "w"
      exact h2 c1 c2
  · walk_at "w"
    refine ⟨rfl, fun d hd => h1 (fun z => c1 z.1) d _ hd upd_same (Kp.refl.new hd)⟩
/-- the object after an operation on v: low and high its neighbours -/
def apR (L R : List Int) (o : Int) : List Int := R.set (L.getD o.natAbs default).toNat (if o < 0 then R.getD o.natAbs default else (o.natAbs : Int))
def apL (L R : List Int) (o : Int) : List Int := L.set (R.getD o.natAbs default).toNat (if o < 0 then L.getD o.natAbs default else (o.natAbs : Int))
def apF (F : List Bool) (o : Int) : List Bool := F.set o.natAbs (decide (o < 0))
def sp_Links_apply_at (a : AD) : Sp := fun vs H Q E => ∃ (x l r f : Addr) (n o i : Int) (L R : List Int) (F : List Bool), vs = [.ref x, .int o, .int i] ∧ Lnk a H x l r f n L R F ∧ L.length = (n + 2).toNat ∧ R.length = (n + 2).toNat ∧ F.length = (n + 2).toNat ∧
  (¬IsOp n o → xBadOperation a (.int o) (.int i) E H) ∧ (IsOp n o → F.getD o.natAbs default = decide (o < 0) → xIllegal a (.int o) (.int i) E H) ∧
  (IsOp n o → F.getD o.natAbs default ≠ decide (o < 0) → 0 ≤ L.getD o.natAbs default ∧ L.getD o.natAbs default < n + 2 ∧ 0 ≤ R.getD o.natAbs default ∧ R.getD o.natAbs default < n + 2 ∧ ∀ H', Lnk a H' x l r f n (apL L R o) (apR L R o) (apF F o) → Kp [l, r, f] H H' → Q .non H')
theorem sc_Links_apply_at : FnScope ["self", "operation", "index", "node", "is_unlink", "low", "high"] ["self", "operation", "index"] (defScope s_Links_apply_at) := ⟨rfl, rfl, rfl, by decide +kernel, rfl, by decide +kernel, by decide +kernel⟩
theorem ok_Links_apply_at {P : Program} {w : World} {K : PySem.W.Frag} {mg : Str → Option Value} {base : Heap} {a : AD} (T : Txt P K mg a) (G_check_operation : FnA P w K mg base 2 a.f_check_operation ["size", "operation", "index"] (sp_check_operation a)) : FnA P w K mg base 3 a.f_Links_apply_at ["self", "operation", "index"] (sp_Links_apply_at a) := by
  obtain ⟨fd, F, b⟩ := T.F_Links_apply_at
  refine FnA.of F sc_Links_apply_at b (fun vs H Q E h => by first | (obtain ⟨rfl, _⟩ := h; rfl) | (obtain ⟨_, rfl, _⟩ := h; rfl) | (obtain ⟨_, _, rfl, _⟩ := h; rfl) | (obtain ⟨_, _, _, rfl, _⟩ := h; rfl) | (obtain ⟨_, _, _, _, rfl, _⟩ := h; rfl) | (obtain ⟨_, _, _, _, _, rfl, _⟩ := h; rfl) | (obtain ⟨_, _, _, _, _, _, rfl, _⟩ := h; rfl) | (obtain ⟨_, _, _, _, _, _, _, rfl, _⟩ := h; rfl) | (obtain ⟨_, _, _, _, _, _, _, _, rfl, _⟩ := h; rfl) | (obtain ⟨_, _, _, _, _, _, _, _, _, rfl, _⟩ := h; rfl) | (obtain ⟨_, _, _, _, _, _, _, _, _, _, rfl, _⟩ := h; rfl) | (obtain ⟨_, _, _, _, _, _, _, _, _, _, _, rfl, _⟩ := h; rfl) | (obtain ⟨_, _, _, _, _, _, _, _, _, _, _, _, rfl, _⟩ := h; rfl) | (obtain ⟨_, _, _, _, _, _, _, _, _, _, _, _, _, rfl, _⟩ := h; rfl) | (obtain ⟨_, _, _, _, _, _, _, _, _, _, _, _, _, _, rfl, _⟩ := h; rfl) | (obtain ⟨_, _, _, _, _, _, _, _, _, _, _, _, _, _, _, rfl, _⟩ := h; rfl) | (obtain ⟨_, _, _, _, _, _, _, _, _, _, _, _, _, _, _, _, rfl, _⟩ := h; rfl) | (obtain ⟨_, _, _, _, _, _, _, _, _, _, _, _, _, _, _, _, _, rfl, _⟩ := h; rfl) | (obtain ⟨_, _, _, _, _, _, _, _, _, _, _, _, _, _, _, _, _, _, rfl, _⟩ := h; rfl) | (obtain ⟨_, _, _, _, _, _, _, _, _, _, _, _, _, _, _, _, _, _, _, rfl, _⟩ := h; rfl) | (obtain ⟨_, _, _, _, _, _, _, _, _, _, _, _, _, _, _, _, _, _, _, _, rfl, _⟩ := h; rfl) | (obtain ⟨_, _, _, _, _, _, _, _, _, _, _, _, _, _, _, _, _, _, _, _, _, rfl, _⟩ := h; rfl) | (obtain ⟨_, _, _, _, _, _, _, _, _, _, _, _, _, _, _, _, _, _, _, _, _, _, rfl, _⟩ := h; rfl) | (obtain ⟨_, _, _, _, _, _, _, _, _, _, _, _, _, _, _, _, _, _, _, _, _, _, _, rfl, _⟩ := h; rfl)) (fun cdv A outer s H vs Q E hr tk pz h => ?_)
  have hu := hr.units
  have hrH := L2H.roomH_of hr
  obtain ⟨x, l, r, f, n, o, i, L, R, F, rfl, ⟨⟨dx, hx⟩, hl, hr', hf, hlr, hlf, hrf⟩, hL, hR, hF, h1, h2, h3⟩ := h
  refine ⟨_, (pss_cons (ps_expr (pe_callA G_check_operation (Room.mono hr (by decide)) T.n_check_operation tk (pa_cons (pe_fld (pv 0) rfl) (pa_cons (pv 1) (pa_cons (pv 2) pa_nil)))))
      (pss_cons (ps_set (i := 3) sc_Links_apply_at.nd rfl (Or.inl rfl) (pe_callB (b_abs) rfl T.b_abs (by decide +kernel) (pa_cons (pv 1) pa_nil)))
      (pss_cons (ps_set (i := 4) sc_Links_apply_at.nd rfl (Or.inl rfl) (pe_cmpR op_lt (pv 1) pe_int (nomark _)))
      (pss_cons (ps_if (pt_cmpA (o_eq hu) (pe_ix ix_seq (pe_fld (pv 0) rfl) (pv 3) (fun _ _ => rfl)) (pv 4) (nomark _)) (pss_one (L2N.ps_raise rfl tk (Lk.pmk_own T.x_Illegal (List.cons_ne_nil _ _) hr T.c_Illegal (by exact (pa_cons (pv 1) (pa_cons (pv 2) pa_nil))) rfl))) pss_nil)
      (pss_cons (ps_set (i := 5) sc_Links_apply_at.nd rfl (Or.inl rfl) (pe_ix ix_seq (pe_fld (pv 0) rfl) (pv 3) (fun _ _ => rfl)))
      (pss_cons (ps_set (i := 6) sc_Links_apply_at.nd rfl (Or.inl rfl) (pe_ix ix_seq (pe_fld (pv 0) rfl) (pv 3) (fun _ _ => rfl)))
      (pss_cons (ps_asg (pe_ifExp (pt_tru (pv 4)) (pv 6) (pv 3)) (pg_sub (pe_fld (pv 0) rfl) (pv 5) set_list))
      (pss_cons (ps_asg (pe_ifExp (pt_tru (pv 4)) (pv 5) (pv 3)) (pg_sub (pe_fld (pv 0) rfl) (pv 6) set_list))
      (pss_one (ps_asg (pv 4) (pg_sub (pe_fld (pv 0) rfl) (pv 3) set_list))))))))))), ?_⟩
  show (_ : Ends → L2.St → Hp → Prop) _ [some _, some _, some _, none, none, none, none] _
  try dsimp only [L2H.cxH, cxOf]
  walk_at "w"
  refine ⟨n, o, i, rfl, h1, fun hop => ?_⟩
  have hop2 := hop.2
  walk_at "w"
  refine w_ite (fun c1 => ?_) (fun c1 => ?_)
  · walk_at "w"
    exact ⟨rfl, fun d hd => h2 hop c1 d _ hd upd_same (Kp.refl.new hd)⟩
  · obtain ⟨b1, b2, b3, b4, k⟩ := h3 hop c1
    have n1 : x ≠ l := ne_of hx hl (by intro z; cases z)
    have n2 : x ≠ r := ne_of hx hr' (by intro z; cases z)
    have n3 : x ≠ f := ne_of hx hf (by intro z; cases z)
    walk_at "w"
    simp only [Int.toNat_natCast]
    unfold apL apR apF at k
    refine w_ite (fun c2 => ?_) (fun c2 => ?_)
    · rw [if_pos c2, if_pos c2] at k
      walk_at "w"
      exact k _ ⟨⟨dx, by walk_at "hp"⟩, by walk_at "hp", by walk_at "hp", upd_same, hlr, hlf, hrf⟩ (((Kp.refl.mut (by simp)).mut (by simp)).mut (by simp))
    · rw [if_neg c2, if_neg c2] at k
      walk_at "w"
      exact k _ ⟨⟨dx, by walk_at "hp"⟩, by walk_at "hp", by walk_at "hp", upd_same, hlr, hlf, hrf⟩ (((Kp.refl.mut (by simp)).mut (by simp)).mut (by simp))
/-- an operation, at place i -/
def apSp (a : AD) (x l r f : Addr) (n o i : Int) (L R : List Int) (F : List Bool) (H : Hp) (Q : VK) (E : XK) : Prop := Lnk a H x l r f n L R F ∧ L.length = (n + 2).toNat ∧ R.length = (n + 2).toNat ∧ F.length = (n + 2).toNat ∧
  (¬IsOp n o → xBadOperation a (.int o) (.int i) E H) ∧ (IsOp n o → F.getD o.natAbs default = decide (o < 0) → xIllegal a (.int o) (.int i) E H) ∧
  (IsOp n o → F.getD o.natAbs default ≠ decide (o < 0) → 0 ≤ L.getD o.natAbs default ∧ L.getD o.natAbs default < n + 2 ∧ 0 ≤ R.getD o.natAbs default ∧ R.getD o.natAbs default < n + 2 ∧ ∀ H', Lnk a H' x l r f n (apL L R o) (apR L R o) (apF F o) → Kp [l, r, f] H H' → Q .non H')
def sp_Links_apply (a : AD) : Sp := fun vs H Q E => ∃ (x l r f : Addr) (n o : Int) (L R : List Int) (F : List Bool), vs = [.ref x, .int o] ∧ apSp a x l r f n o 0 L R F H Q E
/-- a new object -/
def sp_Links___init__ (a : AD) : Sp := fun vs H Q E => ∃ (x dx : Addr) (n : Int), vs = [.ref x, .int n] ∧ H x = some (.ins a.Links dx []) ∧ (¬(0 ≤ n ∧ n ≤ 60) → xBadSize a (.int n) E H) ∧
  (0 ≤ n → n ≤ 60 → ∀ (l r f : Addr) (H' : Hp), H l = none → H r = none → H f = none → Lnk a H' x l r f n (rgI (-1) (n + 1)) (rgI 1 (n + 3)) (List.replicate (n + 2).toNat false) → Kp [x] H H' → Q .non H')
theorem sc_Links___init__ : FnScope ["self", "size"] ["self", "size"] (defScope s_Links___init__) := ⟨rfl, rfl, rfl, by decide +kernel, rfl, by decide +kernel, by decide +kernel⟩
theorem ok_Links___init__ {P : Program} {w : World} {K : PySem.W.Frag} {mg : Str → Option Value} {base : Heap} {a : AD} (T : Txt P K mg a) (G_check_size : FnA P w K mg base 2 a.f_check_size ["size"] (sp_check_size a)) : FnA P w K mg base 3 a.f_Links___init__ ["self", "size"] (sp_Links___init__ a) := by
  obtain ⟨fd, F, b⟩ := T.F_Links___init__
  refine FnA.of F sc_Links___init__ b (fun vs H Q E h => by first | (obtain ⟨rfl, _⟩ := h; rfl) | (obtain ⟨_, rfl, _⟩ := h; rfl) | (obtain ⟨_, _, rfl, _⟩ := h; rfl) | (obtain ⟨_, _, _, rfl, _⟩ := h; rfl) | (obtain ⟨_, _, _, _, rfl, _⟩ := h; rfl) | (obtain ⟨_, _, _, _, _, rfl, _⟩ := h; rfl) | (obtain ⟨_, _, _, _, _, _, rfl, _⟩ := h; rfl) | (obtain ⟨_, _, _, _, _, _, _, rfl, _⟩ := h; rfl) | (obtain ⟨_, _, _, _, _, _, _, _, rfl, _⟩ := h; rfl) | (obtain ⟨_, _, _, _, _, _, _, _, _, rfl, _⟩ := h; rfl) | (obtain ⟨_, _, _, _, _, _, _, _, _, _, rfl, _⟩ := h; rfl) | (obtain ⟨_, _, _, _, _, _, _, _, _, _, _, rfl, _⟩ := h; rfl) | (obtain ⟨_, _, _, _, _, _, _, _, _, _, _, _, rfl, _⟩ := h; rfl) | (obtain ⟨_, _, _, _, _, _, _, _, _, _, _, _, _, rfl, _⟩ := h; rfl) | (obtain ⟨_, _, _, _, _, _, _, _, _, _, _, _, _, _, rfl, _⟩ := h; rfl) | (obtain ⟨_, _, _, _, _, _, _, _, _, _, _, _, _, _, _, rfl, _⟩ := h; rfl) | (obtain ⟨_, _, _, _, _, _, _, _, _, _, _, _, _, _, _, _, rfl, _⟩ := h; rfl) | (obtain ⟨_, _, _, _, _, _, _, _, _, _, _, _, _, _, _, _, _, rfl, _⟩ := h; rfl) | (obtain ⟨_, _, _, _, _, _, _, _, _, _, _, _, _, _, _, _, _, _, rfl, _⟩ := h; rfl) | (obtain ⟨_, _, _, _, _, _, _, _, _, _, _, _, _, _, _, _, _, _, _, rfl, _⟩ := h; rfl) | (obtain ⟨_, _, _, _, _, _, _, _, _, _, _, _, _, _, _, _, _, _, _, _, rfl, _⟩ := h; rfl) | (obtain ⟨_, _, _, _, _, _, _, _, _, _, _, _, _, _, _, _, _, _, _, _, _, rfl, _⟩ := h; rfl) | (obtain ⟨_, _, _, _, _, _, _, _, _, _, _, _, _, _, _, _, _, _, _, _, _, _, rfl, _⟩ := h; rfl) | (obtain ⟨_, _, _, _, _, _, _, _, _, _, _, _, _, _, _, _, _, _, _, _, _, _, _, rfl, _⟩ := h; rfl)) (fun cdv A outer s H vs Q E hr tk pz h => ?_)
  have hu := hr.units
  have hrH := L2H.roomH_of hr
  obtain ⟨x, dx, n, rfl, hx, h1, h2⟩ := h
  refine ⟨_, (pss_cons (ps_expr (pe_callA G_check_size (Room.mono hr (by decide)) T.n_check_size tk (pa_cons (pv 1) pa_nil)))
      (pss_cons (ps_fld (pv 0) (pv 1) rfl)
      (pss_cons (ps_fld (pv 0) (pe_listRg rfl rfl T.b_list (prg_2 rfl T.b_range (pe_un un_neg pe_int) (pe_op o_add (pv 1) pe_int))) rfl)
      (pss_cons (ps_fld (pv 0) (pe_listRg rfl rfl T.b_list (prg_2 rfl T.b_range pe_int (pe_op o_add (pv 1) pe_int))) rfl)
      (pss_one (ps_fld (pv 0) (pe_op o_mul (pe_lst (pa_cons pe_bl pa_nil)) (pe_op o_add (pv 1) pe_int)) rfl)))))), ?_⟩
  show (_ : Ends → L2.St → Hp → Prop) _ [some _, some _] _
  try dsimp only [L2H.cxH, cxOf]
  walk_at "w"
  refine ⟨n, rfl, h1, fun n0 n1 => ?_⟩
  walk_at "w"
  intro l hl
  have hxl : x ≠ l := ne_of_none (by walk_at "hp") hl
  have l0 : H l = none := by rw [upd_ne (Ne.symm hxl)] at hl; exact hl
  walk_at "w"
  intro r hr
  have hxr : x ≠ r := ne_of_none upd_same hr
  have hlr : l ≠ r := ne_of_none (by walk_at "hp") hr
  have r0 : H r = none := by rw [upd_ne (Ne.symm hxr), upd_ne (Ne.symm hlr), upd_ne (Ne.symm hxr)] at hr; exact hr
  walk_at "w"
  intro f0 hf0
  walk_at "w"
  intro f hf
  have hxf : x ≠ f := ne_of_none (by walk_at "hp") hf
  have hlf : l ≠ f := ne_of_none (by walk_at "hp") hf
  have hrf : r ≠ f := ne_of_none (by walk_at "hp") hf
  have hff : f0 ≠ f := ne_of_none (by walk_at "hp") hf
  have f00 : H f = none := by rw [upd_ne (Ne.symm hff), upd_ne (Ne.symm hxf), upd_ne (Ne.symm hrf), upd_ne (Ne.symm hxf), upd_ne (Ne.symm hlf), upd_ne (Ne.symm hxf)] at hf; exact hf
  walk_at "w"
  refine h2 n0 n1 l r f _ l0 r0 f00 ⟨⟨dx, upd_same⟩, by walk_at "hp", by walk_at "hp", by walk_at "hp", hlr, hlf, hrf⟩ ?_
  have f01 : H f0 = none := by walk_at "fr"
  exact ((((((((Kp.refl.mut (by simp)).own l0).mut (by simp)).own r0).mut (by simp)).own f01).own f00).mut (by simp))
/-- the new object's promise -/
def newSp (a : AD) (n : Int) (L R : List Int) (F : List Bool) (H : Hp) (Q : VK) : Prop := ∀ (x l r f : Addr) (H' : Hp), H x = none → H l = none → H r = none → H f = none → Lnk a H' x l r f n L R F → Kp [] H H' → Q (.ref x) H'
def sp_Links_built (a : AD) : Sp := fun vs H Q E => ∃ (n : Int) (pl pr pf : Addr) (L R : List Int) (F : List Bool), vs = [.int n, .ref pl, .ref pr, .ref pf] ∧ 0 ≤ n ∧ n ≤ 60 ∧ H pl = some (.lst (L.map V.int)) ∧ H pr = some (.lst (R.map V.int)) ∧ H pf = some (.lst (F.map V.bl)) ∧ newSp a n L R F H Q
def sp_Links_copy (a : AD) : Sp := fun vs H Q E => ∃ (x l r f : Addr) (n : Int) (L R : List Int) (F : List Bool), vs = [.ref x] ∧ Lnk a H x l r f n L R F ∧ 0 ≤ n ∧ n ≤ 60 ∧ newSp a n L R F H Q
/-! ### reading a dump -/
def sp_is_number (a : AD) : Sp := fun vs H Q E => ∃ z : Str, vs = [.str z] ∧ z.length ≤ 1000000 ∧ Q (.bl (isNumW z)) H
/-- a new list of the numbers, or None -/
def rdSp (H : Hp) (Q : VK) (R : List Int → Prop) : Prop := (∀ us, R us → ∀ r H', H r = none → Kp [] H H' → H' r = some (.lst (us.map V.int)) → Q (.ref r) H') ∧ ((∀ us, ¬R us) → ∀ H', Kp [] H H' → Q .non H')
def sp__numbers (a : AD) : Sp := fun vs H Q E => ∃ z : Str, vs = [.str z] ∧ z.length ≤ 1000000 ∧ rdSp H Q (fun us => numsOf z = some us)
def RightsOk (us : List Int) : Prop := us.length ≤ 61 ∧ ∀ (i : Nat) (u : Int), us[i]? = some u → (i : Int) < u ∧ u ≤ us.length
def LeftsOk (n : Int) (us : List Int) : Prop := (us.length : Int) = n + 1 ∧ ∀ (i : Nat) (u : Int), us[i]? = some u → u ≤ (i : Int)
def outsOk (n : Int) : Int → List Int → Prop
  | _, [] => True
  | last, u :: us => last < u ∧ u ≤ n ∧ outsOk n u us
def RdR (z : Str) (us : List Int) : Prop := numsOf z = some us ∧ RightsOk us
def RdL (n : Int) (z : Str) (us : List Int) : Prop := numsOf z = some us ∧ LeftsOk n us
def RdO (n : Int) (z : Str) (us : List Int) : Prop := (z = "none" ∧ us = []) ∨ (z ≠ "none" ∧ numsOf z = some us ∧ outsOk n 0 us)
def sp__read_rights (a : AD) : Sp := fun vs H Q E => ∃ z : Str, vs = [.str z] ∧ z.length ≤ 1000000 ∧ rdSp H Q (RdR z)
def sp__read_lefts (a : AD) : Sp := fun vs H Q E => ∃ (z : Str) (n : Int), vs = [.str z, .int n] ∧ z.length ≤ 1000000 ∧ rdSp H Q (RdL n z)
theorem take_snoc {α : Type} {us : List α} {i : Nat} {u : α} (h : us[i]? = some u) : us.take (i + 1) = us.take i ++ [u] := by
  rw [List.take_succ, h]; rfl
/-- outsOk from the front -/
theorem outsOk_snoc {n : Int} : ∀ {us : List Int} {last u : Int}, outsOk n last (us ++ [u]) ↔ outsOk n last us ∧ (us.getLastD last < u ∧ u ≤ n)
  | [], last, u => by simp [outsOk]
  | v :: us, last, u => by
    rw [List.cons_append]
    unfold outsOk
    rw [outsOk_snoc]
    have : (v :: us).getLastD last = us.getLastD v := by cases us <;> rfl
    rw [this]
    simp only [and_assoc]
theorem outsOk_app {n : Int} : ∀ {us vs : List Int} {last : Int}, outsOk n last (us ++ vs) → outsOk n last us
  | [], _, _, _ => trivial
  | v :: us, vs, last, h => ⟨h.1, h.2.1, outsOk_app h.2.2⟩
def sp__read_outs (a : AD) : Sp := fun vs H Q E => ∃ (z : Str) (n : Int), vs = [.str z, .int n] ∧ z.length ≤ 1000000 ∧ rdSp H Q (RdO n z)
def flagsOf (n : Int) (os : List Int) : List Bool := os.foldl (fun F v => F.set v.toNat true) (List.replicate (n + 2).toNat false)
theorem flagsOf_len (n : Int) (os : List Int) : (flagsOf n os).length = (n + 2).toNat := by
  unfold flagsOf
  suffices h : ∀ (l : List Int) (fs : List Bool), (l.foldl (fun F v => F.set v.toNat true) fs).length = fs.length by
    rw [h]; simp
  intro l
  induction l with
  | nil => intro fs; rfl
  | cons o l ih => intro fs; rw [List.foldl_cons, ih]; simp
theorem flagsOf_snoc (n : Int) (l : List Int) (o : Int) : flagsOf n (l ++ [o]) = (flagsOf n l).set o.toNat true := by
  unfold flagsOf
  rw [List.foldl_append]; rfl
theorem outsOk_mem {n : Int} : ∀ {us : List Int} {last : Int}, outsOk n last us → ∀ u ∈ us, last < u ∧ u ≤ n
  | [], _, _ => fun u hu => by cases hu
  | v :: us, last, h => fun u hu => by
    rcases List.mem_cons.mp hu with z | z
    · subst z; exact ⟨h.1, h.2.1⟩
    · have := outsOk_mem h.2.2 u z
      have := h.1
      omega
def readSp (a : AD) (ps : List Str) (H : Hp) (Q : VK) (E : XK) : Prop :=
  (∀ us ls os, RdR (ps.getD 0 default) us → 1 < ps.length → RdL ((us.length : Int) - 1) (ps.getD 1 default) ls → 2 < ps.length → RdO ((us.length : Int) - 1) (ps.getD 2 default) os → ps.length ≤ 3 →
    newSp a ((us.length : Int) - 1) (-1 :: ls) (us ++ [(us.length : Int) - 1 + 2]) (flagsOf ((us.length : Int) - 1) os) H Q) ∧
  ((∀ us, ¬RdR (ps.getD 0 default) us) → xBadDump a (.int 0) E H) ∧
  (∀ us, RdR (ps.getD 0 default) us → (1 < ps.length → ∀ ls, ¬RdL ((us.length : Int) - 1) (ps.getD 1 default) ls) → xBadDump a (.int 1) E H) ∧
  (∀ us ls, RdR (ps.getD 0 default) us → 1 < ps.length → RdL ((us.length : Int) - 1) (ps.getD 1 default) ls → (2 < ps.length → ∀ os, ¬RdO ((us.length : Int) - 1) (ps.getD 2 default) os) → xBadDump a (.int 2) E H) ∧
  (∀ us ls os, RdR (ps.getD 0 default) us → 1 < ps.length → RdL ((us.length : Int) - 1) (ps.getD 1 default) ls → 2 < ps.length → RdO ((us.length : Int) - 1) (ps.getD 2 default) os → 3 < ps.length → xBadDump a (.int 3) E H)
theorem RdR.len {z : Str} {us : List Int} (h : RdR z us) : 1 ≤ us.length ∧ us.length ≤ 61 := ⟨(numsOf_len h.1).1, h.2.1⟩
theorem RdO.ok {n : Int} {z : Str} {us : List Int} (h : RdO n z us) : outsOk n 0 us := by
  rcases h with h | h
  · rw [h.2]; trivial
  · exact h.2.2
def sp_Links_read (a : AD) : Sp := fun vs H Q E => ∃ z : Str, vs = [.str z] ∧ z.length ≤ 900000 ∧ readSp a (Txt.split z " | ") H Q E
/-! ### the text of a standing -/
def outL (n : Int) (F : List Bool) : List Int := (List.range n.toNat).filterMap fun i : Nat => if F.getD (i + 1) default = true then some (1 + (i : Int)) else none
def goneT (n : Int) (F : List Bool) : Str := if outL n F = [] then "none" else Txt.join " " ((outL n F).map strI)
def textOf (n : Int) (R L : List Int) (F : List Bool) : Str := Txt.join " " (R.map strI) ++ " | " ++ Txt.join " " ((L.drop 1).map strI) ++ " | " ++ goneT n F
/-- a standing as the law draws it -/
structure WF (n : Int) (R L : List Int) (F : List Bool) : Prop where
  n0 : 0 ≤ n
  n1 : n ≤ 60
  hR : R.length = (n + 1).toNat
  hL : L.length = (n + 2).toNat
  hF : F.length = (n + 2).toNat
  r : ∀ (i : Nat) (u : Int), R[i]? = some u → (i : Int) < u ∧ u ≤ n + 1
  l0 : L[0]? = some (-1)
  l : ∀ (i : Nat) (u : Int), 1 ≤ i → L[i]? = some u → 0 ≤ u ∧ u < (i : Int)
  f0 : F.getD 0 default = false
  f1 : F.getD (n + 1).toNat default = false
theorem outL_mem {n : Int} {F : List Bool} {u : Int} (h : u ∈ outL n F) : 1 ≤ u ∧ u ≤ n ∧ F.getD u.toNat default = true := by
  unfold outL at h
  rw [List.mem_filterMap] at h
  obtain ⟨i, hi, e⟩ := h
  rw [List.mem_range] at hi
  split at e
  · rename_i q
    cases e
    refine ⟨by omega, by omega, ?_⟩
    rw [show (1 + (i : Int)).toNat = i + 1 by omega]
    exact q
  · cases e
theorem outL_len (n : Int) (F : List Bool) : (outL n F).length ≤ n.toNat := by
  have := fm_len (fun i : Nat => if F.getD (i + 1) default = true then some (1 + (i : Int)) else none) (List.range n.toNat)
  rw [List.length_range] at this
  exact this
/-- the outs from 1 to k -/
def outK (F : List Bool) (k : Nat) : List Int := (List.range k).filterMap fun i : Nat => if F.getD (i + 1) default = true then some (1 + (i : Int)) else none
theorem outK_succ (F : List Bool) (k : Nat) : outK F (k + 1) = outK F k ++ (if F.getD (k + 1) default = true then [1 + (k : Int)] else []) := by
  unfold outK
  rw [List.range_succ, List.filterMap_append]
  congr 1
  rw [List.filterMap_cons, List.filterMap_nil]
  by_cases z : F.getD (k + 1) default = true
  · rw [if_pos z, if_pos z]
  · rw [if_neg z, if_neg z]
theorem outK_last (F : List Bool) : ∀ k : Nat, (outK F k).getLastD 0 ≤ (k : Int) ∧ 0 ≤ (outK F k).getLastD 0
  | 0 => by simp [outK]
  | k + 1 => by
    have := outK_last F k
    rw [outK_succ]
    split
    · simp; omega
    · rw [List.append_nil]; omega
theorem outK_ok {n : Int} (F : List Bool) : ∀ k : Nat, (k : Int) ≤ n → outsOk n 0 (outK F k)
  | 0, _ => trivial
  | k + 1, h => by
    have ih := outK_ok (n := n) F k (by omega)
    rw [outK_succ]
    split
    · rw [outsOk_snoc]
      have := outK_last F k
      exact ⟨ih, by omega, by omega⟩
    · rw [List.append_nil]; exact ih
theorem outL_ok {n : Int} (n0 : 0 ≤ n) (F : List Bool) : outsOk n 0 (outL n F) := outK_ok F n.toNat (by omega)
theorem getD_set_eq {α : Type} [Inhabited α] {us : List α} {i : Nat} {u : α} (h : i < us.length) : (us.set i u).getD i default = u := by
  simp [List.getD, h]
theorem getD_set_ne {α : Type} [Inhabited α] {us : List α} {i j : Nat} {u : α} (h : i ≠ j) : (us.set i u).getD j default = us.getD j default := by
  simp [List.getD, List.getElem?_set_ne h]
theorem flagsOf_outK {n : Int} (n0 : 0 ≤ n) (F : List Bool) : ∀ k : Nat, (k : Int) ≤ n → ∀ j : Nat, j < (n + 2).toNat → (flagsOf n (outK F k)).getD j default = if 1 ≤ j ∧ j ≤ k then F.getD j default else false
  | 0, _, j, hj => by
    rw [if_neg (by omega)]
    show (List.replicate (n + 2).toNat false).getD j default = false
    simp [List.getD, List.getElem?_replicate]
    split <;> rfl
  | k + 1, h, j, hj => by
    have ih := flagsOf_outK n0 F k (by omega) j hj
    have hl := flagsOf_len n (outK F k)
    rw [outK_succ]
    by_cases z : F.getD (k + 1) default = true
    · rw [if_pos z, flagsOf_snoc, show (1 + (k : Int)).toNat = k + 1 by omega]
      by_cases q : j = k + 1
      · subst q
        rw [if_pos ⟨by omega, Nat.le_refl _⟩, z]
        exact getD_set_eq (by rw [hl]; omega)
      · have e : ((flagsOf n (outK F k)).set (k + 1) true).getD j default = (flagsOf n (outK F k)).getD j default := by
          exact getD_set_ne (fun y => q y.symm)
        rw [e, ih]
        by_cases q2 : 1 ≤ j ∧ j ≤ k
        · rw [if_pos q2, if_pos ⟨q2.1, by omega⟩]
        · rw [if_neg q2, if_neg (fun y => q2 ⟨y.1, by omega⟩)]
    · rw [if_neg z, List.append_nil, ih]
      by_cases q : j = k + 1
      · subst q
        rw [if_neg (by omega), if_pos ⟨by omega, Nat.le_refl _⟩]
        cases y : F.getD (k + 1) default with
        | true => exact absurd y z
        | false => rfl
      · by_cases q2 : 1 ≤ j ∧ j ≤ k
        · rw [if_pos q2, if_pos ⟨q2.1, by omega⟩]
        · rw [if_neg q2, if_neg (fun y => q2 ⟨y.1, by omega⟩)]
theorem getD_ext {α : Type} [Inhabited α] {us vs : List α} (hl : us.length = vs.length) (h : ∀ j, j < us.length → us.getD j default = vs.getD j default) : us = vs := by
  apply List.ext_getElem hl
  intro i h1 h2
  have := h i h1
  simpa [List.getD, List.getElem?_eq_getElem h1, List.getElem?_eq_getElem h2] using this
theorem flags_back {n : Int} {R L : List Int} {F : List Bool} (w : WF n R L F) : flagsOf n (outL n F) = F := by
  have hl := flagsOf_len n (outL n F)
  refine getD_ext (by rw [hl, w.hF]) fun j hj => ?_
  rw [hl] at hj
  have e := flagsOf_outK w.n0 F n.toNat (by have := w.n0; omega) j hj
  have e2 : outK F n.toNat = outL n F := rfl
  rw [e2] at e
  rw [e]
  by_cases q : 1 ≤ j ∧ j ≤ n.toNat
  · rw [if_pos q]
  · rw [if_neg q]
    by_cases z : j = 0
    · subst z; exact w.f0.symm
    · have : j = (n + 1).toNat := by have := w.n0; omega
      rw [this]; exact w.f1.symm
theorem none_free : 124 ∉ TL.tl ("none" : Str) := by decide +kernel
theorem none_ne {us : List Int} (hne : us ≠ []) (h : ∀ u ∈ us, 0 ≤ u) : Txt.join " " (us.map strI) ≠ ("none" : Str) := by
  intro e
  cases us with
  | nil => exact hne rfl
  | cons u us =>
    have e2 := congrArg TL.tl e
    have e3 : TL.tl ("none" : Str) = [110, 111, 110, 101] := by decide +kernel
    rw [TL.join_eq, TL.tl_join, e3] at e2
    have h0 := tl_strI (h u List.mem_cons_self)
    have hne := TL.numL_ne u.toNat
    have hd := TL.numL_digits u.toNat
    cases q : TL.numL u.toNat with
    | nil => exact hne q
    | cons c r =>
      have hc : 48 ≤ c ∧ c ≤ 57 := hd c (by rw [q]; exact List.mem_cons_self)
      cases us with
      | nil =>
        have e4 : TL.tl (strI u) = [110, 111, 110, 101] := e2
        rw [h0, q] at e4
        injection e4 with e5
        omega
      | cons v vs =>
        have e4 : TL.tl (strI u) ++ (TL.tl " " ++ TL.joinL (TL.tl " ") ((v :: vs).map fun x => TL.tl (strI x))) = [110, 111, 110, 101] := by
          rw [← e2]
          simp only [List.map_cons, List.map_map]
          rfl
        rw [h0, q, List.cons_append] at e4
        injection e4 with e5
        omega
theorem WF.rs {n : Int} {R L : List Int} {F : List Bool} (w : WF n R L F) : ∀ u ∈ R, 0 ≤ u ∧ u < 1000000000 := by
  intro u hu
  obtain ⟨i, hi, rfl⟩ := List.getElem_of_mem hu
  have := w.r i _ (List.getElem?_eq_getElem hi)
  have := w.n1
  omega
theorem WF.ls {n : Int} {R L : List Int} {F : List Bool} (w : WF n R L F) : ∀ u ∈ L.drop 1, 0 ≤ u ∧ u < 1000000000 := by
  intro u hu
  obtain ⟨i, hi, rfl⟩ := List.getElem_of_mem hu
  have e : (L.drop 1)[i]? = L[1 + i]? := List.getElem?_drop ..
  rw [List.getElem?_eq_getElem hi] at e
  have h1 := w.l (1 + i) _ (by omega) e.symm
  have hl := w.hL
  have := w.n1
  rw [List.length_drop] at hi
  omega
theorem WF.os {n : Int} {R L : List Int} {F : List Bool} (w : WF n R L F) : ∀ u ∈ outL n F, 0 ≤ u ∧ u < 1000000000 := by
  intro u hu
  have := outL_mem hu
  have := w.n1
  omega
/-- the read-back -/
theorem text_parts {n : Int} {R L : List Int} {F : List Bool} (w : WF n R L F) : Txt.split (textOf n R L F) " | " = [Txt.join " " (R.map strI), Txt.join " " ((L.drop 1).map strI), goneT n F] := by
  unfold textOf
  refine split_three (no_bar fun u hu => (w.rs u hu).1) (no_bar fun u hu => (w.ls u hu).1) ?_
  unfold goneT
  split
  · exact none_free
  · exact no_bar fun u hu => (w.os u hu).1
theorem WF.rne {n : Int} {R L : List Int} {F : List Bool} (w : WF n R L F) : R ≠ [] := by
  intro e
  have h := w.hR
  have := w.n0
  rw [e] at h
  simp at h
  omega
theorem WF.lne {n : Int} {R L : List Int} {F : List Bool} (w : WF n R L F) : L.drop 1 ≠ [] := by
  intro e
  have h := congrArg List.length e
  rw [List.length_drop, w.hL] at h
  have := w.n0
  simp at h
  omega
theorem text_r {n : Int} {R L : List Int} {F : List Bool} (w : WF n R L F) : RdR (Txt.join " " (R.map strI)) R := by
  refine ⟨numsOf_join w.rne w.rs, ?_, fun i u hu => ?_⟩
  · have := w.hR; have := w.n1; omega
  · have := w.r i u hu
    have := w.hR
    have := w.n0
    omega
theorem text_l {n : Int} {R L : List Int} {F : List Bool} (w : WF n R L F) : RdL n (Txt.join " " ((L.drop 1).map strI)) (L.drop 1) := by
  refine ⟨numsOf_join w.lne w.ls, ?_, fun i u hu => ?_⟩
  · rw [List.length_drop, w.hL]; have := w.n0; omega
  · rw [List.getElem?_drop] at hu
    have := w.l (1 + i) u (by omega) hu
    omega
theorem text_o {n : Int} {R L : List Int} {F : List Bool} (w : WF n R L F) : RdO n (goneT n F) (outL n F) := by
  unfold goneT
  split
  · rename_i h
    exact .inl ⟨rfl, h⟩
  · rename_i h
    exact .inr ⟨none_ne h (fun u hu => (w.os u hu).1), numsOf_join h w.os, outL_ok w.n0 F⟩
theorem WF.lcons {n : Int} {R L : List Int} {F : List Bool} (w : WF n R L F) : -1 :: L.drop 1 = L := by
  cases e : L with
  | nil => have := w.l0; rw [e] at this; cases this
  | cons c t =>
    have := w.l0
    rw [e] at this
    cases this
    rfl
theorem text_len {n : Int} {R L : List Int} {F : List Bool} (w : WF n R L F) : (textOf n R L F).length ≤ 10000 ∧ (Txt.join " " (R.map strI)).length ≤ 610 ∧ (Txt.join " " ((L.drop 1).map strI)).length ≤ 610 ∧ (goneT n F).length ≤ 610 := by
  have h1 := (nums_len w.rs).1
  have h2 := (nums_len w.ls).1
  have h3 := (nums_len w.os).1
  have h4 := outL_len n F
  have := w.hR
  have := w.hL
  have := w.n1
  have hg : (goneT n F).length ≤ 610 := by
    unfold goneT
    split
    · show ("none" : Str).length ≤ 610
      have : ("none" : Str).length = 4 := by decide +kernel
      omega
    · omega
  rw [List.length_drop] at h2
  have hb : (" | " : Str).length = 3 := by decide +kernel
  refine ⟨?_, by omega, by omega, hg⟩
  unfold textOf
  rw [len_app, len_app, len_app, len_app, hb]
  omega
/-- what Links.read makes of the text -/
theorem read_text {a : AD} {n : Int} {R L : List Int} {F : List Bool} {H : Hp} {Q : VK} {E : XK} (w : WF n R L F) (k : newSp a n L (R ++ [n + 2]) F H Q) : readSp a (Txt.split (textOf n R L F) " | ") H Q E := by
  rw [text_parts w]
  have hr := text_r w
  have hl := text_l w
  have ho := text_o w
  have hn : (R.length : Int) - 1 = n := by have := w.hR; have := w.n0; omega
  have ur : ∀ us, RdR (Txt.join " " (R.map strI)) us → us = R := fun us h => by
    have := h.1
    rw [hr.1] at this
    exact (Option.some.inj this).symm
  have ul : ∀ us, RdL n (Txt.join " " ((L.drop 1).map strI)) us → us = L.drop 1 := fun us h => by
    have := h.1
    rw [hl.1] at this
    exact (Option.some.inj this).symm
  have uo : ∀ us, RdO n (goneT n F) us → us = outL n F := fun us h => by
    rcases h with ⟨e1, e2⟩ | ⟨e1, e2, _⟩ <;> rcases ho with ⟨d1, d2⟩ | ⟨d1, d2, _⟩
    · rw [e2, d2]
    · exact absurd e1 d1
    · exact absurd d1 e1
    · rw [d2] at e2
      exact (Option.some.inj e2).symm
  refine ⟨fun us ls os h1 _ h2 _ h3 _ => ?_, fun h => absurd hr (h R), fun us h1 h => ?_, fun us ls h1 _ h2 h => ?_, fun us ls os _ _ _ _ _ h => ?_⟩
  · have e1 := ur us h1
    subst e1
    rw [hn] at h2 h3 ⊢
    have e2 := ul ls h2
    have e3 := uo os h3
    subst e2 e3
    rw [w.lcons, flags_back w]
    exact k
  · have e1 := ur us h1
    subst e1
    rw [hn] at h
    exact absurd hl (h (by simp) _)
  · have e1 := ur us h1
    subst e1
    rw [hn] at h
    exact absurd ho (h (by simp) _)
  · simp at h

theorem fm_congr {α β : Type} {f g : α → Option β} : ∀ {l : List α}, (∀ x ∈ l, f x = g x) → l.filterMap f = l.filterMap g
  | [], _ => rfl
  | x :: l, h => by
    rw [List.filterMap_cons, List.filterMap_cons, h x List.mem_cons_self, fm_congr (fun y hy => h y (List.mem_cons_of_mem _ hy))]
/-! ### the dump -/
theorem cut_last {α : Type} {xs : List α} {x : α} : cut (xs ++ [x]) none (some (-1)) = xs := by
  unfold cut
  simp [HT.sIx]
  rw [show (-1 + ((xs.length : Int) + 1)).toNat = xs.length by omega, List.take_left]
theorem cut_tail {α : Type} {xs : List α} : cut xs (some 1) none = xs.drop 1 := by
  unfold cut
  simp only [HT.sIx]
  rw [if_neg (by decide)]
  cases xs with
  | nil => simp
  | cons x xs =>
    rw [show min (1 : Int).toNat (x :: xs).length = 1 by simp]
    simp
/-- the three parts -/
def sp_Links__dump_parts (a : AD) : Sp := fun vs H Q E => ∃ (x l r f : Addr) (n : Int) (L R : List Int) (F : List Bool), vs = [.ref x] ∧ Lnk a H x l r f n L (R ++ [n + 2]) F ∧ WF n R L F ∧ ∀ p H', H p = none → Kp [] H H' → H' p = some (.lst ([Txt.join " " (R.map strI), Txt.join " " ((L.drop 1).map strI), goneT n F].map V.str)) → Q (.ref p) H'
def sp_Links_dump (a : AD) : Sp := fun vs H Q E => ∃ (x l r f : Addr) (n : Int) (L R : List Int) (F : List Bool), vs = [.ref x] ∧ Lnk a H x l r f n L (R ++ [n + 2]) F ∧ WF n R L F ∧ ∀ H', Kp [] H H' → Q (.str (textOf n R L F)) H'
/-! ### the gaps -/
def stateOf (R L : List Int) (g : Int) : Str := if R.getD g.toNat default = g + 1 then (if L.getD (g + 1).toNat default = g then "joined" else "left") else if L.getD (g + 1).toNat default = g then "right" else "lost"
/-- the object at x is what is asked, its lists as long as they should be -/
def Obj (a : AD) (H : Hp) (x l r f : Addr) (n : Int) (L R : List Int) (F : List Bool) : Prop := Lnk a H x l r f n L R F ∧ 0 ≤ n ∧ n ≤ 60 ∧ L.length = (n + 2).toNat ∧ R.length = (n + 2).toNat ∧ F.length = (n + 2).toNat
theorem Obj.kp0 {a : AD} {H H' : Hp} {x l r f : Addr} {n : Int} {L R : List Int} {F : List Bool} (h : Obj a H x l r f n L R F) (k : Kp [] H H') : Obj a H' x l r f n L R F := ⟨h.1.kp0 k, h.2⟩
def sp_left_holds (a : AD) : Sp := fun vs H Q E => ∃ (x l r f : Addr) (n g : Int) (L R : List Int) (F : List Bool), vs = [.ref x, .int g] ∧ Obj a H x l r f n L R F ∧ 0 ≤ g ∧ g ≤ n ∧ Q (.bl (decide (R.getD g.toNat default = g + 1))) H
theorem sc_left_holds : FnScope ["links", "gap"] ["links", "gap"] (defScope s_left_holds) := ⟨rfl, rfl, rfl, by decide +kernel, rfl, by decide +kernel, by decide +kernel⟩
theorem ok_left_holds {P : Program} {w : World} {K : PySem.W.Frag} {mg : Str → Option Value} {base : Heap} {a : AD} (T : Txt P K mg a) (G_Links_right : FnA P w K mg base 2 a.f_Links_right ["self", "node"] (sp_Links_right a)) : FnA P w K mg base 3 a.f_left_holds ["links", "gap"] (sp_left_holds a) := by
  obtain ⟨fd, F, b⟩ := T.F_left_holds
  refine FnA.of F sc_left_holds b (fun vs H Q E h => by first | (obtain ⟨rfl, _⟩ := h; rfl) | (obtain ⟨_, rfl, _⟩ := h; rfl) | (obtain ⟨_, _, rfl, _⟩ := h; rfl) | (obtain ⟨_, _, _, rfl, _⟩ := h; rfl) | (obtain ⟨_, _, _, _, rfl, _⟩ := h; rfl) | (obtain ⟨_, _, _, _, _, rfl, _⟩ := h; rfl) | (obtain ⟨_, _, _, _, _, _, rfl, _⟩ := h; rfl) | (obtain ⟨_, _, _, _, _, _, _, rfl, _⟩ := h; rfl) | (obtain ⟨_, _, _, _, _, _, _, _, rfl, _⟩ := h; rfl) | (obtain ⟨_, _, _, _, _, _, _, _, _, rfl, _⟩ := h; rfl) | (obtain ⟨_, _, _, _, _, _, _, _, _, _, rfl, _⟩ := h; rfl) | (obtain ⟨_, _, _, _, _, _, _, _, _, _, _, rfl, _⟩ := h; rfl) | (obtain ⟨_, _, _, _, _, _, _, _, _, _, _, _, rfl, _⟩ := h; rfl) | (obtain ⟨_, _, _, _, _, _, _, _, _, _, _, _, _, rfl, _⟩ := h; rfl) | (obtain ⟨_, _, _, _, _, _, _, _, _, _, _, _, _, _, rfl, _⟩ := h; rfl) | (obtain ⟨_, _, _, _, _, _, _, _, _, _, _, _, _, _, _, rfl, _⟩ := h; rfl) | (obtain ⟨_, _, _, _, _, _, _, _, _, _, _, _, _, _, _, _, rfl, _⟩ := h; rfl) | (obtain ⟨_, _, _, _, _, _, _, _, _, _, _, _, _, _, _, _, _, rfl, _⟩ := h; rfl) | (obtain ⟨_, _, _, _, _, _, _, _, _, _, _, _, _, _, _, _, _, _, rfl, _⟩ := h; rfl) | (obtain ⟨_, _, _, _, _, _, _, _, _, _, _, _, _, _, _, _, _, _, _, rfl, _⟩ := h; rfl) | (obtain ⟨_, _, _, _, _, _, _, _, _, _, _, _, _, _, _, _, _, _, _, _, rfl, _⟩ := h; rfl) | (obtain ⟨_, _, _, _, _, _, _, _, _, _, _, _, _, _, _, _, _, _, _, _, _, rfl, _⟩ := h; rfl) | (obtain ⟨_, _, _, _, _, _, _, _, _, _, _, _, _, _, _, _, _, _, _, _, _, _, rfl, _⟩ := h; rfl) | (obtain ⟨_, _, _, _, _, _, _, _, _, _, _, _, _, _, _, _, _, _, _, _, _, _, _, rfl, _⟩ := h; rfl)) (fun cdv A outer s H vs Q E hr tk pz h => ?_)
  have hu := hr.units
  have hrH := L2H.roomH_of hr
  obtain ⟨x, l, r, f, n, g, L, R, F, rfl, hO, g0, g1, k⟩ := h
  have hx := hO.1.1.choose_spec
  refine ⟨_, (pss_one (ps_ret (pe_cmpR (o_eq hu) (pe_methS (pl := _) G_Links_right (Room.mono hr (by decide)) T.cl_Links T.me_Links_right tk (pv 0) (pa_cons (pv 1) pa_nil)) (pe_op o_add (pv 1) pe_int) (nomark _)))), ?_⟩
  show (_ : Ends → L2.St → Hp → Prop) _ [some _, some _] _
  try dsimp only [L2H.cxH, cxOf]
  walk_at "w"
  refine ⟨x, l, r, f, n, g, L, R, F, rfl, hO.1, hO.2.2.2.2.1, fun z => absurd ⟨g0, g1⟩ z, fun _ _ => ?_⟩
  walk_at "w"
  exact k
def sp_right_holds (a : AD) : Sp := fun vs H Q E => ∃ (x l r f : Addr) (n g : Int) (L R : List Int) (F : List Bool), vs = [.ref x, .int g] ∧ Obj a H x l r f n L R F ∧ 0 ≤ g ∧ g ≤ n ∧ Q (.bl (decide (L.getD (g + 1).toNat default = g))) H
theorem sc_right_holds : FnScope ["links", "gap"] ["links", "gap"] (defScope s_right_holds) := ⟨rfl, rfl, rfl, by decide +kernel, rfl, by decide +kernel, by decide +kernel⟩
theorem ok_right_holds {P : Program} {w : World} {K : PySem.W.Frag} {mg : Str → Option Value} {base : Heap} {a : AD} (T : Txt P K mg a) (G_Links_left : FnA P w K mg base 2 a.f_Links_left ["self", "node"] (sp_Links_left a)) : FnA P w K mg base 3 a.f_right_holds ["links", "gap"] (sp_right_holds a) := by
  obtain ⟨fd, F, b⟩ := T.F_right_holds
  refine FnA.of F sc_right_holds b (fun vs H Q E h => by first | (obtain ⟨rfl, _⟩ := h; rfl) | (obtain ⟨_, rfl, _⟩ := h; rfl) | (obtain ⟨_, _, rfl, _⟩ := h; rfl) | (obtain ⟨_, _, _, rfl, _⟩ := h; rfl) | (obtain ⟨_, _, _, _, rfl, _⟩ := h; rfl) | (obtain ⟨_, _, _, _, _, rfl, _⟩ := h; rfl) | (obtain ⟨_, _, _, _, _, _, rfl, _⟩ := h; rfl) | (obtain ⟨_, _, _, _, _, _, _, rfl, _⟩ := h; rfl) | (obtain ⟨_, _, _, _, _, _, _, _, rfl, _⟩ := h; rfl) | (obtain ⟨_, _, _, _, _, _, _, _, _, rfl, _⟩ := h; rfl) | (obtain ⟨_, _, _, _, _, _, _, _, _, _, rfl, _⟩ := h; rfl) | (obtain ⟨_, _, _, _, _, _, _, _, _, _, _, rfl, _⟩ := h; rfl) | (obtain ⟨_, _, _, _, _, _, _, _, _, _, _, _, rfl, _⟩ := h; rfl) | (obtain ⟨_, _, _, _, _, _, _, _, _, _, _, _, _, rfl, _⟩ := h; rfl) | (obtain ⟨_, _, _, _, _, _, _, _, _, _, _, _, _, _, rfl, _⟩ := h; rfl) | (obtain ⟨_, _, _, _, _, _, _, _, _, _, _, _, _, _, _, rfl, _⟩ := h; rfl) | (obtain ⟨_, _, _, _, _, _, _, _, _, _, _, _, _, _, _, _, rfl, _⟩ := h; rfl) | (obtain ⟨_, _, _, _, _, _, _, _, _, _, _, _, _, _, _, _, _, rfl, _⟩ := h; rfl) | (obtain ⟨_, _, _, _, _, _, _, _, _, _, _, _, _, _, _, _, _, _, rfl, _⟩ := h; rfl) | (obtain ⟨_, _, _, _, _, _, _, _, _, _, _, _, _, _, _, _, _, _, _, rfl, _⟩ := h; rfl) | (obtain ⟨_, _, _, _, _, _, _, _, _, _, _, _, _, _, _, _, _, _, _, _, rfl, _⟩ := h; rfl) | (obtain ⟨_, _, _, _, _, _, _, _, _, _, _, _, _, _, _, _, _, _, _, _, _, rfl, _⟩ := h; rfl) | (obtain ⟨_, _, _, _, _, _, _, _, _, _, _, _, _, _, _, _, _, _, _, _, _, _, rfl, _⟩ := h; rfl) | (obtain ⟨_, _, _, _, _, _, _, _, _, _, _, _, _, _, _, _, _, _, _, _, _, _, _, rfl, _⟩ := h; rfl)) (fun cdv A outer s H vs Q E hr tk pz h => ?_)
  have hu := hr.units
  have hrH := L2H.roomH_of hr
  obtain ⟨x, l, r, f, n, g, L, R, F, rfl, hO, g0, g1, k⟩ := h
  have hx := hO.1.1.choose_spec
  refine ⟨_, (pss_one (ps_ret (pe_cmpR (o_eq hu) (pe_methS (pl := _) G_Links_left (Room.mono hr (by decide)) T.cl_Links T.me_Links_left tk (pv 0) (pa_cons (pe_op o_add (pv 1) pe_int) pa_nil)) (pv 1) (nomark _)))), ?_⟩
  show (_ : Ends → L2.St → Hp → Prop) _ [some _, some _] _
  try dsimp only [L2H.cxH, cxOf]
  walk_at "w"
  refine ⟨x, l, r, f, n, g + 1, L, R, F, rfl, hO.1, hO.2.2.2.1, fun z => absurd ⟨by omega, by omega⟩ z, fun _ _ => ?_⟩
  walk_at "w"
  exact k
def sp_gap_state (a : AD) : Sp := fun vs H Q E => ∃ (x l r f : Addr) (n g : Int) (L R : List Int) (F : List Bool), vs = [.ref x, .int g] ∧ Obj a H x l r f n L R F ∧ (¬(0 ≤ g ∧ g ≤ n) → xBadGap a (.int g) E H) ∧ (0 ≤ g → g ≤ n → Q (.str (stateOf R L g)) H)
theorem sc_gap_state : FnScope ["links", "gap"] ["links", "gap"] (defScope s_gap_state) := ⟨rfl, rfl, rfl, by decide +kernel, rfl, by decide +kernel, by decide +kernel⟩
theorem ok_gap_state {P : Program} {w : World} {K : PySem.W.Frag} {mg : Str → Option Value} {base : Heap} {a : AD} (T : Txt P K mg a) (G_check_gap : FnA P w K mg base 2 a.f_check_gap ["size", "gap"] (sp_check_gap a)) (G_left_holds : FnA P w K mg base 3 a.f_left_holds ["links", "gap"] (sp_left_holds a)) (G_right_holds : FnA P w K mg base 3 a.f_right_holds ["links", "gap"] (sp_right_holds a)) : FnA P w K mg base 4 a.f_gap_state ["links", "gap"] (sp_gap_state a) := by
  obtain ⟨fd, F, b⟩ := T.F_gap_state
  refine FnA.of F sc_gap_state b (fun vs H Q E h => by first | (obtain ⟨rfl, _⟩ := h; rfl) | (obtain ⟨_, rfl, _⟩ := h; rfl) | (obtain ⟨_, _, rfl, _⟩ := h; rfl) | (obtain ⟨_, _, _, rfl, _⟩ := h; rfl) | (obtain ⟨_, _, _, _, rfl, _⟩ := h; rfl) | (obtain ⟨_, _, _, _, _, rfl, _⟩ := h; rfl) | (obtain ⟨_, _, _, _, _, _, rfl, _⟩ := h; rfl) | (obtain ⟨_, _, _, _, _, _, _, rfl, _⟩ := h; rfl) | (obtain ⟨_, _, _, _, _, _, _, _, rfl, _⟩ := h; rfl) | (obtain ⟨_, _, _, _, _, _, _, _, _, rfl, _⟩ := h; rfl) | (obtain ⟨_, _, _, _, _, _, _, _, _, _, rfl, _⟩ := h; rfl) | (obtain ⟨_, _, _, _, _, _, _, _, _, _, _, rfl, _⟩ := h; rfl) | (obtain ⟨_, _, _, _, _, _, _, _, _, _, _, _, rfl, _⟩ := h; rfl) | (obtain ⟨_, _, _, _, _, _, _, _, _, _, _, _, _, rfl, _⟩ := h; rfl) | (obtain ⟨_, _, _, _, _, _, _, _, _, _, _, _, _, _, rfl, _⟩ := h; rfl) | (obtain ⟨_, _, _, _, _, _, _, _, _, _, _, _, _, _, _, rfl, _⟩ := h; rfl) | (obtain ⟨_, _, _, _, _, _, _, _, _, _, _, _, _, _, _, _, rfl, _⟩ := h; rfl) | (obtain ⟨_, _, _, _, _, _, _, _, _, _, _, _, _, _, _, _, _, rfl, _⟩ := h; rfl) | (obtain ⟨_, _, _, _, _, _, _, _, _, _, _, _, _, _, _, _, _, _, rfl, _⟩ := h; rfl) | (obtain ⟨_, _, _, _, _, _, _, _, _, _, _, _, _, _, _, _, _, _, _, rfl, _⟩ := h; rfl) | (obtain ⟨_, _, _, _, _, _, _, _, _, _, _, _, _, _, _, _, _, _, _, _, rfl, _⟩ := h; rfl) | (obtain ⟨_, _, _, _, _, _, _, _, _, _, _, _, _, _, _, _, _, _, _, _, _, rfl, _⟩ := h; rfl) | (obtain ⟨_, _, _, _, _, _, _, _, _, _, _, _, _, _, _, _, _, _, _, _, _, _, rfl, _⟩ := h; rfl) | (obtain ⟨_, _, _, _, _, _, _, _, _, _, _, _, _, _, _, _, _, _, _, _, _, _, _, rfl, _⟩ := h; rfl)) (fun cdv A outer s H vs Q E hr tk pz h => ?_)
  have hu := hr.units
  have hrH := L2H.roomH_of hr
  obtain ⟨x, l, r, f, n, g, L, R, F, rfl, hO, h1, h2⟩ := h
  have hx := hO.1.1.choose_spec
  refine ⟨_, (pss_cons (ps_expr (pe_callA G_check_gap (Room.mono hr (by decide)) T.n_check_gap tk (pa_cons (pe_fld (pv 0) rfl) (pa_cons (pv 1) pa_nil))))
      (pss_cons (ps_if (pt_tru (pe_callA G_left_holds (Room.mono hr (by decide)) T.n_left_holds tk (pa_cons (pv 0) (pa_cons (pv 1) pa_nil)))) (pss_one (ps_ret (pe_ifExp (pt_tru (pe_callA G_right_holds (Room.mono hr (by decide)) T.n_right_holds tk (pa_cons (pv 0) (pa_cons (pv 1) pa_nil)))) pe_str pe_str))) pss_nil)
      (pss_one (ps_ret (pe_ifExp (pt_tru (pe_callA G_right_holds (Room.mono hr (by decide)) T.n_right_holds tk (pa_cons (pv 0) (pa_cons (pv 1) pa_nil)))) pe_str pe_str))))), ?_⟩
  show (_ : Ends → L2.St → Hp → Prop) _ [some _, some _] _
  try dsimp only [L2H.cxH, cxOf]
  walk_at "w"
  refine ⟨n, g, rfl, h1, fun g0 g1 => ?_⟩
  have k := h2 g0 g1
  unfold stateOf at k
  walk_at "w"
  refine ⟨x, l, r, f, n, g, L, R, F, rfl, hO, g0, g1, ?_⟩
  walk_at "w"
  refine w_ite (fun c1 => ?_) (fun c1 => ?_)
  · rw [if_pos c1] at k
    walk_at "w"
    refine ⟨x, l, r, f, n, g, L, R, F, rfl, hO, g0, g1, ?_⟩
    walk_at "w"
    refine w_ite (fun c2 => ?_) (fun c2 => ?_)
    · rw [if_pos c2] at k
      walk_at "w"
      exact k
    · rw [if_neg c2] at k
      walk_at "w"
      exact k
  · rw [if_neg c1] at k
    walk_at "w"
    refine ⟨x, l, r, f, n, g, L, R, F, rfl, hO, g0, g1, ?_⟩
    walk_at "w"
    refine w_ite (fun c2 => ?_) (fun c2 => ?_)
    · rw [if_pos c2] at k
      walk_at "w"
      exact k
    · rw [if_neg c2] at k
      walk_at "w"
      exact k
def statesOf (n : Int) (R L : List Int) : List Str := (List.range (n + 1).toNat).map fun i : Nat => stateOf R L (i : Int)
def lostF (n : Int) (R L : List Int) : List Int := (List.range (n + 1).toNat).filterMap fun i : Nat => if stateOf R L (i : Int) = ("lost" : Str) then some (i : Int) else none
def soleF (n : Int) (R L : List Int) : List Int := (List.range n.toNat).filterMap fun i : Nat => if stateOf R L (i : Int) = ("right" : Str) ∨ stateOf R L (1 + (i : Int)) = ("left" : Str) then some (1 + (i : Int)) else none
theorem statesOf_get {n : Int} {R L : List Int} {i : Nat} (h : i < (n + 1).toNat) : (statesOf n R L)[i]? = some (stateOf R L (i : Int)) := by
  unfold statesOf
  rw [List.getElem?_map, List.getElem?_range h]; rfl
theorem statesOf_getD {n : Int} {R L : List Int} {i : Nat} (h : i < (n + 1).toNat) : (statesOf n R L).getD i default = stateOf R L (i : Int) := by
  rw [List.getD_eq_getElem?_getD, statesOf_get h]; rfl
theorem statesOf_len (n : Int) (R L : List Int) : (statesOf n R L).length = (n + 1).toNat := by
  unfold statesOf
  rw [List.length_map, List.length_range]
def sp_gap_states (a : AD) : Sp := fun vs H Q E => ∃ (x l r f : Addr) (n : Int) (L R : List Int) (F : List Bool), vs = [.ref x] ∧ Obj a H x l r f n L R F ∧ ∀ p H', H p = none → Kp [] H H' → H' p = some (.lst ((statesOf n R L).map V.str)) → Q (.ref p) H'
theorem sc_gap_states : FnScope ["links", "gap"] ["links"] (defScope s_gap_states) := ⟨rfl, rfl, rfl, by decide +kernel, rfl, by decide +kernel, by decide +kernel⟩
theorem ok_gap_states {P : Program} {w : World} {K : PySem.W.Frag} {mg : Str → Option Value} {base : Heap} {a : AD} (T : Txt P K mg a) (G_gap_state : FnA P w K mg base 4 a.f_gap_state ["links", "gap"] (sp_gap_state a)) : FnA P w K mg base 5 a.f_gap_states ["links"] (sp_gap_states a) := by
  obtain ⟨fd, F, b⟩ := T.F_gap_states
  refine FnA.of F sc_gap_states b (fun vs H Q E h => by first | (obtain ⟨rfl, _⟩ := h; rfl) | (obtain ⟨_, rfl, _⟩ := h; rfl) | (obtain ⟨_, _, rfl, _⟩ := h; rfl) | (obtain ⟨_, _, _, rfl, _⟩ := h; rfl) | (obtain ⟨_, _, _, _, rfl, _⟩ := h; rfl) | (obtain ⟨_, _, _, _, _, rfl, _⟩ := h; rfl) | (obtain ⟨_, _, _, _, _, _, rfl, _⟩ := h; rfl) | (obtain ⟨_, _, _, _, _, _, _, rfl, _⟩ := h; rfl) | (obtain ⟨_, _, _, _, _, _, _, _, rfl, _⟩ := h; rfl) | (obtain ⟨_, _, _, _, _, _, _, _, _, rfl, _⟩ := h; rfl) | (obtain ⟨_, _, _, _, _, _, _, _, _, _, rfl, _⟩ := h; rfl) | (obtain ⟨_, _, _, _, _, _, _, _, _, _, _, rfl, _⟩ := h; rfl) | (obtain ⟨_, _, _, _, _, _, _, _, _, _, _, _, rfl, _⟩ := h; rfl) | (obtain ⟨_, _, _, _, _, _, _, _, _, _, _, _, _, rfl, _⟩ := h; rfl) | (obtain ⟨_, _, _, _, _, _, _, _, _, _, _, _, _, _, rfl, _⟩ := h; rfl) | (obtain ⟨_, _, _, _, _, _, _, _, _, _, _, _, _, _, _, rfl, _⟩ := h; rfl) | (obtain ⟨_, _, _, _, _, _, _, _, _, _, _, _, _, _, _, _, rfl, _⟩ := h; rfl) | (obtain ⟨_, _, _, _, _, _, _, _, _, _, _, _, _, _, _, _, _, rfl, _⟩ := h; rfl) | (obtain ⟨_, _, _, _, _, _, _, _, _, _, _, _, _, _, _, _, _, _, rfl, _⟩ := h; rfl) | (obtain ⟨_, _, _, _, _, _, _, _, _, _, _, _, _, _, _, _, _, _, _, rfl, _⟩ := h; rfl) | (obtain ⟨_, _, _, _, _, _, _, _, _, _, _, _, _, _, _, _, _, _, _, _, rfl, _⟩ := h; rfl) | (obtain ⟨_, _, _, _, _, _, _, _, _, _, _, _, _, _, _, _, _, _, _, _, _, rfl, _⟩ := h; rfl) | (obtain ⟨_, _, _, _, _, _, _, _, _, _, _, _, _, _, _, _, _, _, _, _, _, _, rfl, _⟩ := h; rfl) | (obtain ⟨_, _, _, _, _, _, _, _, _, _, _, _, _, _, _, _, _, _, _, _, _, _, _, rfl, _⟩ := h; rfl)) (fun cdv A outer s H vs Q E hr tk pz h => ?_)
  have hu := hr.units
  have hrH := L2H.roomH_of hr
  obtain ⟨x, l, r, f, n, L, R, F, rfl, hO, k⟩ := h
  have hx := hO.1.1.choose_spec
  have n0 := hO.2.1
  have n1 := hO.2.2.1
  refine ⟨_, (pss_one (ps_ret (pe_lc (own := [("gap", 1)]) (g := (gName 1)) (tt := tYes) rfl sc_gap_states.nd (pi_range1 rfl T.b_range (pa_cons (pe_op o_add (pe_fld (pv 0) rfl) pe_int) pa_nil)) (blkOk_by (own := [("gap", 1)]) (N := ["links", "gap"]) (sc := defScope s_gap_states) (by decide +kernel)) (fun _ _ _ _ _ => (pg_name (i := 1) sc_gap_states.nd rfl (Or.inl rfl))) (fun _ _ _ _ _ => pts_nil) (fun _ _ _ _ _ => (pe_callA G_gap_state (Room.mono hr (by decide)) T.n_gap_state takes0 (pa_cons (pv 0) (pa_cons (pv 1) pa_nil))))))), ?_⟩
  show (_ : Ends → L2.St → Hp → Prop) _ [some _, none] _
  try dsimp only [L2H.cxH, cxOf]
  walk_at "w"
  refine w_lcR1 (f' := V.str) (fun i : Nat => some (stateOf R L (i : Int))) (n := n + 1) (by omega) (by omega) (by rw [sizeLine_eq]; omega) ?_ ?_
  · intro D i acc H' hD hi hk hA hlen
    walk_at "w"
    refine ⟨rfl, ?_⟩
    walk_at "w"
    refine ⟨x, l, r, f, n, i, L, R, F, rfl, hO.kp0 hk, fun z => absurd ⟨by omega, by omega⟩ z, fun _ _ => ?_⟩
    exact w_keep hk hA hlen hD rfl
  · intro D H' hD hk hA
    rw [fm_some] at hA
    exact k D H' hD hk hA
theorem zip_states {n : Int} {R L : List Int} {β : Type} {ψ : Nat → Str → Option β} : ((statesOf n R L).zipIdx.filterMap fun q => ψ q.2 q.1) = (List.range (n + 1).toNat).filterMap fun i : Nat => ψ i (stateOf R L (i : Int)) := by
  have e : (statesOf n R L).zipIdx = (List.range (n + 1).toNat).map fun i : Nat => (stateOf R L (i : Int), i) := by
    apply List.ext_getElem?
    intro i
    rw [List.getElem?_zipIdx, List.getElem?_map]
    by_cases h : i < (n + 1).toNat
    · rw [statesOf_get h, List.getElem?_range h]
      simp
    · rw [List.getElem?_eq_none (by rw [statesOf_len]; omega), List.getElem?_eq_none (by simp; omega)]
      rfl
  rw [e, List.filterMap_map]
  rfl
def sp_lost_gaps (a : AD) : Sp := fun vs H Q E => ∃ (x l r f : Addr) (n : Int) (L R : List Int) (F : List Bool), vs = [.ref x] ∧ Obj a H x l r f n L R F ∧ ∀ p H', H p = none → Kp [] H H' → H' p = some (.lst ((lostF n R L).map V.int)) → Q (.ref p) H'
def sp_sole_holders (a : AD) : Sp := fun vs H Q E => ∃ (x l r f : Addr) (n : Int) (L R : List Int) (F : List Bool), vs = [.ref x] ∧ Obj a H x l r f n L R F ∧ ∀ p H', H p = none → Kp [] H H' → H' p = some (.lst ((soleF n R L).map V.int)) → Q (.ref p) H'
theorem state_left {R L : List Int} {g : Int} : stateOf R L g = ("left" : Str) ↔ R.getD g.toNat default = g + 1 ∧ ¬L.getD (g + 1).toNat default = g := by
  have n1 : ¬("joined" : Str) = ("left" : Str) := by decide
  have n2 : ¬("right" : Str) = ("left" : Str) := by decide
  have n3 : ¬("lost" : Str) = ("left" : Str) := by decide
  unfold stateOf
  by_cases c1 : R.getD g.toNat default = g + 1
  · rw [if_pos c1]
    by_cases c2 : L.getD (g + 1).toNat default = g
    · rw [if_pos c2]; exact ⟨fun z => absurd z n1, fun z => absurd c2 z.2⟩
    · rw [if_neg c2]; exact ⟨fun _ => ⟨c1, c2⟩, fun _ => rfl⟩
  · rw [if_neg c1]
    by_cases c2 : L.getD (g + 1).toNat default = g
    · rw [if_pos c2]; exact ⟨fun z => absurd z n2, fun z => absurd z.1 c1⟩
    · rw [if_neg c2]; exact ⟨fun z => absurd z n3, fun z => absurd z.1 c1⟩
theorem state_right {R L : List Int} {g : Int} : stateOf R L g = ("right" : Str) ↔ ¬R.getD g.toNat default = g + 1 ∧ L.getD (g + 1).toNat default = g := by
  have n1 : ¬("joined" : Str) = ("right" : Str) := by decide
  have n2 : ¬("left" : Str) = ("right" : Str) := by decide
  have n3 : ¬("lost" : Str) = ("right" : Str) := by decide
  unfold stateOf
  by_cases c1 : R.getD g.toNat default = g + 1
  · rw [if_pos c1]
    by_cases c2 : L.getD (g + 1).toNat default = g
    · rw [if_pos c2]; exact ⟨fun z => absurd z n1, fun z => absurd c1 z.1⟩
    · rw [if_neg c2]; exact ⟨fun z => absurd z n2, fun z => absurd z.2 c2⟩
  · rw [if_neg c1]
    by_cases c2 : L.getD (g + 1).toNat default = g
    · rw [if_pos c2]; exact ⟨fun _ => ⟨c1, c2⟩, fun _ => rfl⟩
    · rw [if_neg c2]; exact ⟨fun z => absurd z n3, fun z => absurd z.2 c2⟩
theorem state_app {n : Int} {R L : List Int} {F : List Bool} (w : WF n R L F) {g : Nat} (h : g < (n + 1).toNat) {x : Int} : stateOf (R ++ [x]) L (g : Int) = stateOf R L (g : Int) := by
  have e : (R ++ [x]).getD (g : Int).toNat default = R.getD (g : Int).toNat default := by
    rw [List.getD_eq_getElem?_getD, List.getD_eq_getElem?_getD, List.getElem?_append_left (by rw [w.hR]; omega)]
  unfold stateOf
  rw [e]
theorem states_app {n : Int} {R L : List Int} {F : List Bool} (w : WF n R L F) {x : Int} : statesOf n (R ++ [x]) L = statesOf n R L := by
  unfold statesOf
  apply List.map_congr_left
  intro i hi
  rw [List.mem_range] at hi
  exact state_app w hi
theorem lost_app {n : Int} {R L : List Int} {F : List Bool} (w : WF n R L F) {x : Int} : lostF n (R ++ [x]) L = lostF n R L := by
  unfold lostF
  apply fm_congr
  intro i hi
  rw [List.mem_range] at hi
  rw [state_app w hi]
theorem sole_app {n : Int} {R L : List Int} {F : List Bool} (w : WF n R L F) {x : Int} : soleF n (R ++ [x]) L = soleF n R L := by
  have n0 := w.n0
  unfold soleF
  apply fm_congr
  intro i hi
  rw [List.mem_range] at hi
  rw [state_app w (by omega), show 1 + (i : Int) = ((i + 1 : Nat) : Int) by omega, state_app w (by omega)]
def soleK (R L : List Int) (k : Nat) : List Int := (List.range k).filterMap fun i : Nat => if stateOf R L (i : Int) = ("right" : Str) ∨ stateOf R L (1 + (i : Int)) = ("left" : Str) then some (1 + (i : Int)) else none
theorem soleK_succ (R L : List Int) (k : Nat) : soleK R L (k + 1) = soleK R L k ++ (if stateOf R L (k : Int) = ("right" : Str) ∨ stateOf R L (1 + (k : Int)) = ("left" : Str) then [1 + (k : Int)] else []) := by
  unfold soleK
  rw [List.range_succ, List.filterMap_append]
  congr 1
  rw [List.filterMap_cons, List.filterMap_nil]
  by_cases z : stateOf R L (k : Int) = ("right" : Str) ∨ stateOf R L (1 + (k : Int)) = ("left" : Str)
  · rw [if_pos z, if_pos z]
  · rw [if_neg z, if_neg z]
theorem soleK_len (R L : List Int) (k : Nat) : (soleK R L k).length ≤ k := by
  have := fm_len (fun i : Nat => if stateOf R L (i : Int) = ("right" : Str) ∨ stateOf R L (1 + (i : Int)) = ("left" : Str) then some (1 + (i : Int)) else none) (List.range k)
  rw [List.length_range] at this
  exact this
theorem lostF_len (n : Int) (R L : List Int) : (lostF n R L).length ≤ (n + 1).toNat := by
  have := fm_len (fun i : Nat => if stateOf R L (i : Int) = ("lost" : Str) then some (i : Int) else none) (List.range (n + 1).toNat)
  rw [List.length_range] at this
  exact this

/-! ### draws -/
def Bag (H : Hp) (b : Addr) : Prop := ∃ c m k : Int, H b = some (.lst [.int c, .int m, .int k]) ∧ 0 ≤ c
theorem Bag.kp {H H' : Hp} {b : Addr} (B : Bag H b) (k : Kp [] H H') : Bag H' b := by
  obtain ⟨c, m, j, h1, h2⟩ := B
  exact ⟨c, m, j, k.at0 h1, h2⟩
theorem Bag.kpm {ms : List Addr} {H H' : Hp} {b : Addr} (B : Bag H b) (k : Kp ms H H') (n : b ∉ ms) : Bag H' b := by
  obtain ⟨c, m, j, h1, h2⟩ := B
  exact ⟨c, m, j, k.at h1 n, h2⟩
theorem Bag.live {H : Hp} {b : Addr} (B : Bag H b) : ∃ o, H b = some o := by
  obtain ⟨c, m, j, h1, h2⟩ := B
  exact ⟨_, h1⟩
theorem Bag.ne {H : Hp} {b p : Addr} (B : Bag H b) (h : H p = none) : p ≠ b := by
  obtain ⟨c, m, j, h1, h2⟩ := B
  exact Ne.symm (ne_of_none h1 h)
theorem Bag.new {H : Hp} {b p : Addr} {o : HO} (B : Bag H b) (h : H p = none) : Bag (upd H p o) b := B.kp (Kp.refl.new h)
theorem Bag.mut {H : Hp} {b p : Addr} {o : HO} (B : Bag H b) (n : p ≠ b) : Bag (upd H p o) b := by
  obtain ⟨c, m, j, h1, h2⟩ := B
  exact ⟨c, m, j, upd_get (Ne.symm n) h1, h2⟩
theorem bag_free {H H' : Hp} {b r : Addr} (B : Bag H' b) (k : Kp [b] H H') (h : H' r = none) : H r = none := k.freeM h (by
  intro x hx
  rw [List.mem_singleton] at hx
  rw [hx]; exact B.live)
def sp__law_bag (K : PySem.W.Frag) (a : AD) : Sp := fun vs H Q _ => ∃ (p : Addr) (ns : List Int) (lane : Int), vs = [.ref p, .int lane] ∧ SqL K H p (ns.map V.int) ∧ ns.length ≤ 1000 ∧ 0 ≤ lane ∧ ∀ (b : Addr) (H' : Hp), H b = none → Bag H' b → Kp [] H H' → Q (.ref b) H'
theorem sc__law_bag : FnScope ["_law_script", "_law_lane", "_law_mixed", "_law_k", "_law_cell"] ["_law_script", "_law_lane"] (defScope s__law_bag) := ⟨rfl, rfl, rfl, by decide +kernel, rfl, by decide +kernel, by decide +kernel⟩
theorem ok__law_bag {P : Program} {w : World} {K : PySem.W.Frag} {mg : Str → Option Value} {base : Heap} {a : AD} (T : Txt P K mg a) : FnA P w K mg base 2 a.f__law_bag ["_law_script", "_law_lane"] (sp__law_bag K a) := by
  obtain ⟨fd, F, b⟩ := T.F__law_bag
  refine FnA.of F sc__law_bag b (fun vs H Q E h => by first | (obtain ⟨rfl, _⟩ := h; rfl) | (obtain ⟨_, rfl, _⟩ := h; rfl) | (obtain ⟨_, _, rfl, _⟩ := h; rfl) | (obtain ⟨_, _, _, rfl, _⟩ := h; rfl) | (obtain ⟨_, _, _, _, rfl, _⟩ := h; rfl) | (obtain ⟨_, _, _, _, _, rfl, _⟩ := h; rfl) | (obtain ⟨_, _, _, _, _, _, rfl, _⟩ := h; rfl) | (obtain ⟨_, _, _, _, _, _, _, rfl, _⟩ := h; rfl) | (obtain ⟨_, _, _, _, _, _, _, _, rfl, _⟩ := h; rfl) | (obtain ⟨_, _, _, _, _, _, _, _, _, rfl, _⟩ := h; rfl) | (obtain ⟨_, _, _, _, _, _, _, _, _, _, rfl, _⟩ := h; rfl) | (obtain ⟨_, _, _, _, _, _, _, _, _, _, _, rfl, _⟩ := h; rfl) | (obtain ⟨_, _, _, _, _, _, _, _, _, _, _, _, rfl, _⟩ := h; rfl) | (obtain ⟨_, _, _, _, _, _, _, _, _, _, _, _, _, rfl, _⟩ := h; rfl) | (obtain ⟨_, _, _, _, _, _, _, _, _, _, _, _, _, _, rfl, _⟩ := h; rfl) | (obtain ⟨_, _, _, _, _, _, _, _, _, _, _, _, _, _, _, rfl, _⟩ := h; rfl) | (obtain ⟨_, _, _, _, _, _, _, _, _, _, _, _, _, _, _, _, rfl, _⟩ := h; rfl) | (obtain ⟨_, _, _, _, _, _, _, _, _, _, _, _, _, _, _, _, _, rfl, _⟩ := h; rfl) | (obtain ⟨_, _, _, _, _, _, _, _, _, _, _, _, _, _, _, _, _, _, rfl, _⟩ := h; rfl) | (obtain ⟨_, _, _, _, _, _, _, _, _, _, _, _, _, _, _, _, _, _, _, rfl, _⟩ := h; rfl) | (obtain ⟨_, _, _, _, _, _, _, _, _, _, _, _, _, _, _, _, _, _, _, _, rfl, _⟩ := h; rfl) | (obtain ⟨_, _, _, _, _, _, _, _, _, _, _, _, _, _, _, _, _, _, _, _, _, rfl, _⟩ := h; rfl) | (obtain ⟨_, _, _, _, _, _, _, _, _, _, _, _, _, _, _, _, _, _, _, _, _, _, rfl, _⟩ := h; rfl) | (obtain ⟨_, _, _, _, _, _, _, _, _, _, _, _, _, _, _, _, _, _, _, _, _, _, _, rfl, _⟩ := h; rfl)) (fun cdv A outer s H vs Q E hr tk pz h => ?_)
  have hu := hr.units
  have hrH := L2H.roomH_of hr
  obtain ⟨p, ns, lane, rfl, hp, hl, hlane, k⟩ := h
  refine ⟨_, (pss_cons (ps_set (i := 2) sc__law_bag.nd rfl (Or.inl rfl) (pe_op o_add (pe_op o_mul pe_int (pv 1)) pe_int))
      (pss_cons (ps_for pz rfl (pi_range1 rfl T.b_range (pa_cons (pe_callB (b_min2 rfl) rfl T.b_min (by decide +kernel) (pa_cons pe_int (pa_cons (pe_callB (b_len) rfl T.b_len (by decide +kernel) (pa_cons (pv 0) pa_nil)) pa_nil))) pa_nil)) (pg_name (i := 3) sc__law_bag.nd rfl (Or.inl rfl))
      (pss_one (ps_set (i := 2) sc__law_bag.nd rfl (Or.inl rfl) (pe_op op_mod (pe_callTy b_intA rfl T.b_int (by decide +kernel) (pa_cons (pe_op o_add (pe_op o_add (pe_op o_mul (pv 2) pe_int) (pe_op op_mod (pe_callTy b_intA rfl T.b_int (by decide +kernel) (pa_cons (pe_ix ix_seq (pv 0) (pv 3) (fun _ _ => rfl)) pa_nil)) pe_int)) (pe_op o_mul pe_int (pv 3))) pa_nil)) pe_int))))
      (pss_cons (ps_set (i := 4) sc__law_bag.nd rfl (Or.inl rfl) pe_int)
      (pss_cut (ps_if (PW.pt (pw_and (pt_cmpA op_lt (pv 1) (pe_callB (b_len) rfl T.b_len (by decide +kernel) (pa_cons (pv 0) pa_nil)) (nomark _)) (pw_and1 (pt_cmpA op_ge (pe_callB (b_abs) rfl T.b_abs (by decide +kernel) (pa_cons (pe_ix ix_seq (pv 0) (pv 1) (fun _ _ => rfl)) pa_nil)) (pe_op op_pow pe_int pe_int) (nomark _))))) (pss_one (ps_set (i := 4) sc__law_bag.nd rfl (Or.inl rfl) (pe_callB (b_abs) rfl T.b_abs (by decide +kernel) (pa_cons (pe_ix ix_seq (pv 0) (pv 1) (fun _ _ => rfl)) pa_nil)))) pss_nil)
      (pss_one (ps_ret (pe_lst (pa_cons (pv 4) (pa_cons (pv 2) (pa_cons pe_int pa_nil)))))))))), ?_⟩
  show (_ : Ends → L2.St → Hp → Prop) _ [some _, some _, none, none, none] _
  try dsimp only [L2H.cxH, cxOf]
  walk_at "w"
  refine w_rng1 (n := min 63 (ns.length : Int)) (by omega) (by omega) (fun i σ' H' => (∃ m x : Int, ∃ y, σ' = [some (.ref p), some (.int lane), some (.int m), y, none]) ∧ H' = H) ⟨⟨_, 0, _, rfl⟩, rfl⟩ ?_ ?_
  · rintro i σ' H' hi ⟨⟨m, _, y, rfl⟩, rfl⟩
    walk_at "w"
    exact ⟨⟨_, 0, _, rfl⟩, rfl⟩
  · rintro σ' H' ⟨⟨m, _, y, rfl⟩, rfl⟩
    walk_at "w"
    refine s_cut (fun σ' H2 => H2 = H' ∧ ∃ c : Int, 0 ≤ c ∧ σ' = [some (.ref p), some (.int lane), some (.int m), y, some (.int c)]) ?_ ?_
    · walk_at "w"
      refine w_ite (fun c1 => ?_) (fun c1 => ?_)
      · walk_at "w"
        refine w_ite (fun c2 => ?_) (fun c2 => ?_)
        · walk_at "w"
          exact ⟨rfl, _, by omega, rfl⟩
        · walk_at "w"
          exact ⟨rfl, _, by omega, rfl⟩
      · walk_at "w"
        exact ⟨rfl, _, by omega, rfl⟩
    · rintro σ' H2 ⟨rfl, c, hc, rfl⟩
      walk_at "w"
      intro b hb
      exact k b _ hb ⟨c, m, 0, upd_same, hc⟩ (Kp.refl.new hb)
def sp__law_draw (a : AD) : Sp := fun vs H Q _ => ∃ (b : Addr) (m : Int), vs = [.ref b, .int m] ∧ Bag H b ∧ 0 < m ∧ m < 1073741824 ∧ ∀ (r : Int) (H' : Hp), 0 ≤ r → r < m → Bag H' b → Kp [b] H H' → Q (.int r) H'
theorem sc__law_draw : FnScope ["_law_bag_here", "_law_many", "_law_digit"] ["_law_bag_here", "_law_many"] (defScope s__law_draw) := ⟨rfl, rfl, rfl, by decide +kernel, rfl, by decide +kernel, by decide +kernel⟩
theorem ok__law_draw {P : Program} {w : World} {K : PySem.W.Frag} {mg : Str → Option Value} {base : Heap} {a : AD} (T : Txt P K mg a) : FnA P w K mg base 2 a.f__law_draw ["_law_bag_here", "_law_many"] (sp__law_draw a) := by
  obtain ⟨fd, F, b⟩ := T.F__law_draw
  refine FnA.of F sc__law_draw b (fun vs H Q E h => by first | (obtain ⟨rfl, _⟩ := h; rfl) | (obtain ⟨_, rfl, _⟩ := h; rfl) | (obtain ⟨_, _, rfl, _⟩ := h; rfl) | (obtain ⟨_, _, _, rfl, _⟩ := h; rfl) | (obtain ⟨_, _, _, _, rfl, _⟩ := h; rfl) | (obtain ⟨_, _, _, _, _, rfl, _⟩ := h; rfl) | (obtain ⟨_, _, _, _, _, _, rfl, _⟩ := h; rfl) | (obtain ⟨_, _, _, _, _, _, _, rfl, _⟩ := h; rfl) | (obtain ⟨_, _, _, _, _, _, _, _, rfl, _⟩ := h; rfl) | (obtain ⟨_, _, _, _, _, _, _, _, _, rfl, _⟩ := h; rfl) | (obtain ⟨_, _, _, _, _, _, _, _, _, _, rfl, _⟩ := h; rfl) | (obtain ⟨_, _, _, _, _, _, _, _, _, _, _, rfl, _⟩ := h; rfl) | (obtain ⟨_, _, _, _, _, _, _, _, _, _, _, _, rfl, _⟩ := h; rfl) | (obtain ⟨_, _, _, _, _, _, _, _, _, _, _, _, _, rfl, _⟩ := h; rfl) | (obtain ⟨_, _, _, _, _, _, _, _, _, _, _, _, _, _, rfl, _⟩ := h; rfl) | (obtain ⟨_, _, _, _, _, _, _, _, _, _, _, _, _, _, _, rfl, _⟩ := h; rfl) | (obtain ⟨_, _, _, _, _, _, _, _, _, _, _, _, _, _, _, _, rfl, _⟩ := h; rfl) | (obtain ⟨_, _, _, _, _, _, _, _, _, _, _, _, _, _, _, _, _, rfl, _⟩ := h; rfl) | (obtain ⟨_, _, _, _, _, _, _, _, _, _, _, _, _, _, _, _, _, _, rfl, _⟩ := h; rfl) | (obtain ⟨_, _, _, _, _, _, _, _, _, _, _, _, _, _, _, _, _, _, _, rfl, _⟩ := h; rfl) | (obtain ⟨_, _, _, _, _, _, _, _, _, _, _, _, _, _, _, _, _, _, _, _, rfl, _⟩ := h; rfl) | (obtain ⟨_, _, _, _, _, _, _, _, _, _, _, _, _, _, _, _, _, _, _, _, _, rfl, _⟩ := h; rfl) | (obtain ⟨_, _, _, _, _, _, _, _, _, _, _, _, _, _, _, _, _, _, _, _, _, _, rfl, _⟩ := h; rfl) | (obtain ⟨_, _, _, _, _, _, _, _, _, _, _, _, _, _, _, _, _, _, _, _, _, _, _, rfl, _⟩ := h; rfl)) (fun cdv A outer s H vs Q E hr tk pz h => ?_)
  have hu := hr.units
  have hrH := L2H.roomH_of hr
  obtain ⟨b, m, rfl, ⟨c, x, j, hb, hc⟩, hm0, hm1, k⟩ := h
  refine ⟨_, (pss_cons (ps_if (pt_cmpA op_gt (pe_ix ix_seq (pv 0) pe_int (fun _ _ => rfl)) pe_int (nomark _)) (pss_cons (ps_set (i := 2) sc__law_draw.nd rfl (Or.inl rfl) (pe_op op_mod (pe_callTy b_intA rfl T.b_int (by decide +kernel) (pa_cons (pe_ix ix_seq (pv 0) pe_int (fun _ _ => rfl)) pa_nil)) (pv 1)))
      (pss_cons (ps_asg (pe_op op_fdiv (pe_ix ix_seq (pv 0) pe_int (fun _ _ => rfl)) (pv 1)) (pg_sub (pv 0) pe_int set_list))
      (pss_one (ps_ret (pv 2))))) pss_nil)
      (pss_cons (ps_asg (pe_op o_add (pe_ix ix_seq (pv 0) pe_int (fun _ _ => rfl)) pe_int) (pg_sub (pv 0) pe_int set_list))
      (pss_cons (ps_asg (pe_op op_mod (pe_callTy b_intA rfl T.b_int (by decide +kernel) (pa_cons (pe_op o_add (pe_op o_add (pe_op o_mul (pe_ix ix_seq (pv 0) pe_int (fun _ _ => rfl)) pe_int) (pe_op o_mul (pe_ix ix_seq (pv 0) pe_int (fun _ _ => rfl)) pe_int)) pe_int) pa_nil)) pe_int) (pg_sub (pv 0) pe_int set_list))
      (pss_one (ps_ret (pe_op op_mod (pe_callTy b_intA rfl T.b_int (by decide +kernel) (pa_cons (pe_op op_fdiv (pe_op op_mod (pe_callTy b_intA rfl T.b_int (by decide +kernel) (pa_cons (pe_op o_add (pe_op o_mul (pe_ix ix_seq (pv 0) pe_int (fun _ _ => rfl)) pe_int) (pe_op o_mul (pe_ix ix_seq (pv 0) pe_int (fun _ _ => rfl)) pe_int)) pa_nil)) pe_int) pe_int) pa_nil)) (pv 1))))))), ?_⟩
  show (_ : Ends → L2.St → Hp → Prop) _ [some _, some _, none] _
  try dsimp only [L2H.cxH, cxOf]
  walk_at "w"
  refine w_ite (fun c1 => ?_) (fun c1 => ?_)
  · walk_at "w"
    exact k _ _ (Int.emod_nonneg _ (by omega)) (Int.emod_lt_of_pos _ hm0) ⟨_, x, j, upd_same, Int.ediv_nonneg hc (by omega)⟩ (Kp.refl.mut List.mem_cons_self)
  · walk_at "w"
    exact k _ _ (Int.emod_nonneg _ (by omega)) (Int.emod_lt_of_pos _ hm0) ⟨c, _, j + 1, upd_same, hc⟩ ((Kp.refl.mut List.mem_cons_self).mut List.mem_cons_self)
def sp__law_size (a : AD) : Sp := fun vs H Q _ => ∃ (b : Addr), vs = [.ref b] ∧ Bag H b ∧ ∀ (r : Int) (H' : Hp), 0 ≤ r → r ≤ 60 → Bag H' b → Kp [b] H H' → Q (.int r) H'
theorem sc__law_size : FnScope ["_law_bag_here", "_law_way"] ["_law_bag_here"] (defScope s__law_size) := ⟨rfl, rfl, rfl, by decide +kernel, rfl, by decide +kernel, by decide +kernel⟩
theorem ok__law_size {P : Program} {w : World} {K : PySem.W.Frag} {mg : Str → Option Value} {base : Heap} {a : AD} (T : Txt P K mg a) (G__law_draw : FnA P w K mg base 2 a.f__law_draw ["_law_bag_here", "_law_many"] (sp__law_draw a)) : FnA P w K mg base 3 a.f__law_size ["_law_bag_here"] (sp__law_size a) := by
  obtain ⟨fd, F, b⟩ := T.F__law_size
  refine FnA.of F sc__law_size b (fun vs H Q E h => by first | (obtain ⟨rfl, _⟩ := h; rfl) | (obtain ⟨_, rfl, _⟩ := h; rfl) | (obtain ⟨_, _, rfl, _⟩ := h; rfl) | (obtain ⟨_, _, _, rfl, _⟩ := h; rfl) | (obtain ⟨_, _, _, _, rfl, _⟩ := h; rfl) | (obtain ⟨_, _, _, _, _, rfl, _⟩ := h; rfl) | (obtain ⟨_, _, _, _, _, _, rfl, _⟩ := h; rfl) | (obtain ⟨_, _, _, _, _, _, _, rfl, _⟩ := h; rfl) | (obtain ⟨_, _, _, _, _, _, _, _, rfl, _⟩ := h; rfl) | (obtain ⟨_, _, _, _, _, _, _, _, _, rfl, _⟩ := h; rfl) | (obtain ⟨_, _, _, _, _, _, _, _, _, _, rfl, _⟩ := h; rfl) | (obtain ⟨_, _, _, _, _, _, _, _, _, _, _, rfl, _⟩ := h; rfl) | (obtain ⟨_, _, _, _, _, _, _, _, _, _, _, _, rfl, _⟩ := h; rfl) | (obtain ⟨_, _, _, _, _, _, _, _, _, _, _, _, _, rfl, _⟩ := h; rfl) | (obtain ⟨_, _, _, _, _, _, _, _, _, _, _, _, _, _, rfl, _⟩ := h; rfl) | (obtain ⟨_, _, _, _, _, _, _, _, _, _, _, _, _, _, _, rfl, _⟩ := h; rfl) | (obtain ⟨_, _, _, _, _, _, _, _, _, _, _, _, _, _, _, _, rfl, _⟩ := h; rfl) | (obtain ⟨_, _, _, _, _, _, _, _, _, _, _, _, _, _, _, _, _, rfl, _⟩ := h; rfl) | (obtain ⟨_, _, _, _, _, _, _, _, _, _, _, _, _, _, _, _, _, _, rfl, _⟩ := h; rfl) | (obtain ⟨_, _, _, _, _, _, _, _, _, _, _, _, _, _, _, _, _, _, _, rfl, _⟩ := h; rfl) | (obtain ⟨_, _, _, _, _, _, _, _, _, _, _, _, _, _, _, _, _, _, _, _, rfl, _⟩ := h; rfl) | (obtain ⟨_, _, _, _, _, _, _, _, _, _, _, _, _, _, _, _, _, _, _, _, _, rfl, _⟩ := h; rfl) | (obtain ⟨_, _, _, _, _, _, _, _, _, _, _, _, _, _, _, _, _, _, _, _, _, _, rfl, _⟩ := h; rfl) | (obtain ⟨_, _, _, _, _, _, _, _, _, _, _, _, _, _, _, _, _, _, _, _, _, _, _, rfl, _⟩ := h; rfl)) (fun cdv A outer s H vs Q E hr tk pz h => ?_)
  have hu := hr.units
  have hrH := L2H.roomH_of hr
  obtain ⟨b, rfl, hB, k⟩ := h
  refine ⟨_, (pss_cons (ps_set (i := 1) sc__law_size.nd rfl (Or.inl rfl) (pe_callA G__law_draw (Room.mono hr (by decide)) T.n__law_draw tk (pa_cons (pv 0) (pa_cons pe_int pa_nil))))
      (pss_cons (ps_if (pt_cmpA (o_eq hu) (pv 1) pe_int (nomark _)) (pss_one (ps_ret (pe_callA G__law_draw (Room.mono hr (by decide)) T.n__law_draw tk (pa_cons (pv 0) (pa_cons pe_int pa_nil))))) pss_nil)
      (pss_cons (ps_if (pt_cmpA op_lt (pv 1) pe_int (nomark _)) (pss_one (ps_ret (pe_callA G__law_draw (Room.mono hr (by decide)) T.n__law_draw tk (pa_cons (pv 0) (pa_cons pe_int pa_nil))))) pss_nil)
      (pss_one (ps_ret (pe_callA G__law_draw (Room.mono hr (by decide)) T.n__law_draw tk (pa_cons (pv 0) (pa_cons pe_int pa_nil)))))))), ?_⟩
  show (_ : Ends → L2.St → Hp → Prop) _ [some _, none] _
  try dsimp only [L2H.cxH, cxOf]
  walk_at "w"
  refine ⟨b, _, rfl, hB, by omega, by omega, fun r1 H1 r0 r1' B1 k1 => ?_⟩
  walk_at "w"
  refine w_ite (fun c => ?_) (fun c => ?_)
  · walk_at "w"
    refine ⟨b, _, rfl, B1, by omega, by omega, fun r2 H2 r20 r21 B2 k2 => ?_⟩
    exact k _ _ r20 (by omega) B2 (k1.trans k2)
  · walk_at "w"
    refine w_ite (fun c => ?_) (fun c => ?_)
    · walk_at "w"
      refine ⟨b, _, rfl, B1, by omega, by omega, fun r2 H2 r20 r21 B2 k2 => ?_⟩
      exact k _ _ r20 (by omega) B2 (k1.trans k2)
    · walk_at "w"
      refine ⟨b, _, rfl, B1, by omega, by omega, fun r2 H2 r20 r21 B2 k2 => ?_⟩
      exact k _ _ r20 (by omega) B2 (k1.trans k2)

/-! ### judging answers -/
def sp__law_whole_number (a : AD) : Sp := fun vs H Q _ => ∃ (t : Int), vs = [.int t] ∧ Q (.bl true) H
theorem sc__law_whole_number : FnScope ["_law_told"] ["_law_told"] (defScope s__law_whole_number) := ⟨rfl, rfl, rfl, by decide +kernel, rfl, by decide +kernel, by decide +kernel⟩
theorem ok__law_whole_number {P : Program} {w : World} {K : PySem.W.Frag} {mg : Str → Option Value} {base : Heap} {a : AD} (T : Txt P K mg a) : FnA P w K mg base 2 a.f__law_whole_number ["_law_told"] (sp__law_whole_number a) := by
  obtain ⟨fd, F, b⟩ := T.F__law_whole_number
  refine FnA.of F sc__law_whole_number b (fun vs H Q E h => by first | (obtain ⟨rfl, _⟩ := h; rfl) | (obtain ⟨_, rfl, _⟩ := h; rfl) | (obtain ⟨_, _, rfl, _⟩ := h; rfl) | (obtain ⟨_, _, _, rfl, _⟩ := h; rfl) | (obtain ⟨_, _, _, _, rfl, _⟩ := h; rfl) | (obtain ⟨_, _, _, _, _, rfl, _⟩ := h; rfl) | (obtain ⟨_, _, _, _, _, _, rfl, _⟩ := h; rfl) | (obtain ⟨_, _, _, _, _, _, _, rfl, _⟩ := h; rfl) | (obtain ⟨_, _, _, _, _, _, _, _, rfl, _⟩ := h; rfl) | (obtain ⟨_, _, _, _, _, _, _, _, _, rfl, _⟩ := h; rfl) | (obtain ⟨_, _, _, _, _, _, _, _, _, _, rfl, _⟩ := h; rfl) | (obtain ⟨_, _, _, _, _, _, _, _, _, _, _, rfl, _⟩ := h; rfl) | (obtain ⟨_, _, _, _, _, _, _, _, _, _, _, _, rfl, _⟩ := h; rfl) | (obtain ⟨_, _, _, _, _, _, _, _, _, _, _, _, _, rfl, _⟩ := h; rfl) | (obtain ⟨_, _, _, _, _, _, _, _, _, _, _, _, _, _, rfl, _⟩ := h; rfl) | (obtain ⟨_, _, _, _, _, _, _, _, _, _, _, _, _, _, _, rfl, _⟩ := h; rfl) | (obtain ⟨_, _, _, _, _, _, _, _, _, _, _, _, _, _, _, _, rfl, _⟩ := h; rfl) | (obtain ⟨_, _, _, _, _, _, _, _, _, _, _, _, _, _, _, _, _, rfl, _⟩ := h; rfl) | (obtain ⟨_, _, _, _, _, _, _, _, _, _, _, _, _, _, _, _, _, _, rfl, _⟩ := h; rfl) | (obtain ⟨_, _, _, _, _, _, _, _, _, _, _, _, _, _, _, _, _, _, _, rfl, _⟩ := h; rfl) | (obtain ⟨_, _, _, _, _, _, _, _, _, _, _, _, _, _, _, _, _, _, _, _, rfl, _⟩ := h; rfl) | (obtain ⟨_, _, _, _, _, _, _, _, _, _, _, _, _, _, _, _, _, _, _, _, _, rfl, _⟩ := h; rfl) | (obtain ⟨_, _, _, _, _, _, _, _, _, _, _, _, _, _, _, _, _, _, _, _, _, _, rfl, _⟩ := h; rfl) | (obtain ⟨_, _, _, _, _, _, _, _, _, _, _, _, _, _, _, _, _, _, _, _, _, _, _, rfl, _⟩ := h; rfl)) (fun cdv A outer s H vs Q E hr tk pz h => ?_)
  have hu := hr.units
  have hrH := L2H.roomH_of hr
  obtain ⟨t, rfl, k⟩ := h
  refine ⟨_, (pss_one (ps_ret (pe_and (pe_callB (call_isi) rfl T.b_isinstance (by decide +kernel) (pa_cons (pv 0) (pa_cons (pe_bltn (v := .ty "int") rfl T.b_int (by decide +kernel) rfl) pa_nil))) (pe_one (pe_not (pe_callB (call_isi) rfl T.b_isinstance (by decide +kernel) (pa_cons (pv 0) (pa_cons (pe_bltn (v := .ty "bool") rfl T.b_bool (by decide +kernel) rfl) pa_nil)))))))), ?_⟩
  show (_ : Ends → L2.St → Hp → Prop) _ [some _] _
  try dsimp only [L2H.cxH, cxOf]
  walk_at "w"
  exact k
theorem sch__law_whole_number : FnScope ["_law_told"] ["_law_told"] (defScope s__law_whole_number) := ⟨rfl, rfl, rfl, by decide +kernel, rfl, by decide +kernel, by decide +kernel⟩
theorem hk__law_whole_number {P : Program} {w : World} {K : PySem.W.Frag} {mg : Str → Option Value} {base : Heap} {a : AD} (T : Txt P K mg a) : FnHA P w K mg base 2 a.f__law_whole_number ["_law_told"] (sp__law_whole_number a) := by
  obtain ⟨fd, F, b⟩ := T.F__law_whole_number
  refine FnHA.of F sch__law_whole_number b (fun vs H Q E h => by first | (obtain ⟨rfl, _⟩ := h; rfl) | (obtain ⟨_, rfl, _⟩ := h; rfl) | (obtain ⟨_, _, rfl, _⟩ := h; rfl) | (obtain ⟨_, _, _, rfl, _⟩ := h; rfl) | (obtain ⟨_, _, _, _, rfl, _⟩ := h; rfl) | (obtain ⟨_, _, _, _, _, rfl, _⟩ := h; rfl) | (obtain ⟨_, _, _, _, _, _, rfl, _⟩ := h; rfl) | (obtain ⟨_, _, _, _, _, _, _, rfl, _⟩ := h; rfl) | (obtain ⟨_, _, _, _, _, _, _, _, rfl, _⟩ := h; rfl) | (obtain ⟨_, _, _, _, _, _, _, _, _, rfl, _⟩ := h; rfl) | (obtain ⟨_, _, _, _, _, _, _, _, _, _, rfl, _⟩ := h; rfl) | (obtain ⟨_, _, _, _, _, _, _, _, _, _, _, rfl, _⟩ := h; rfl) | (obtain ⟨_, _, _, _, _, _, _, _, _, _, _, _, rfl, _⟩ := h; rfl) | (obtain ⟨_, _, _, _, _, _, _, _, _, _, _, _, _, rfl, _⟩ := h; rfl) | (obtain ⟨_, _, _, _, _, _, _, _, _, _, _, _, _, _, rfl, _⟩ := h; rfl) | (obtain ⟨_, _, _, _, _, _, _, _, _, _, _, _, _, _, _, rfl, _⟩ := h; rfl) | (obtain ⟨_, _, _, _, _, _, _, _, _, _, _, _, _, _, _, _, rfl, _⟩ := h; rfl) | (obtain ⟨_, _, _, _, _, _, _, _, _, _, _, _, _, _, _, _, _, rfl, _⟩ := h; rfl) | (obtain ⟨_, _, _, _, _, _, _, _, _, _, _, _, _, _, _, _, _, _, rfl, _⟩ := h; rfl) | (obtain ⟨_, _, _, _, _, _, _, _, _, _, _, _, _, _, _, _, _, _, _, rfl, _⟩ := h; rfl) | (obtain ⟨_, _, _, _, _, _, _, _, _, _, _, _, _, _, _, _, _, _, _, _, rfl, _⟩ := h; rfl) | (obtain ⟨_, _, _, _, _, _, _, _, _, _, _, _, _, _, _, _, _, _, _, _, _, rfl, _⟩ := h; rfl) | (obtain ⟨_, _, _, _, _, _, _, _, _, _, _, _, _, _, _, _, _, _, _, _, _, _, rfl, _⟩ := h; rfl) | (obtain ⟨_, _, _, _, _, _, _, _, _, _, _, _, _, _, _, _, _, _, _, _, _, _, _, rfl, _⟩ := h; rfl)) (fun cdv A outer s H vs Q E pin hot1 hrH hot pz h => ?_)
  have hu := roomH_units hrH
  obtain ⟨t, rfl, k⟩ := h
  refine ⟨_, (pss_one (ps_ret (pe_and (pe_callB (call_isi) rfl T.b_isinstance (by decide +kernel) (pa_cons (pv 0) (pa_cons (pe_bltn (v := .ty "int") rfl T.b_int (by decide +kernel) rfl) pa_nil))) (pe_one (pe_not (pe_callB (call_isi) rfl T.b_isinstance (by decide +kernel) (pa_cons (pv 0) (pa_cons (pe_bltn (v := .ty "bool") rfl T.b_bool (by decide +kernel) rfl) pa_nil)))))))), ?_⟩
  show (_ : Ends → L2.St → Hp → Prop) _ [some _] _
  try dsimp only [L2H.cxH, cxOf]
  walk_at "w"
  exact k
theorem ne_at {α : Type} [Inhabited α] [DecidableEq α] {us ds : List α} {i : Nat} (h : ¬us.getD i default = ds.getD i default) : decide (us = ds) = false := by
  simp; intro z; exact h (by rw [z])
def sp__law_numbers (a : AD) : Sp := fun vs H Q _ => ∃ (p q : Addr) (us ds : List Int), vs = [.ref p, .ref q] ∧ H p = some (.lst (us.map V.int)) ∧ H q = some (.lst (ds.map V.int)) ∧ us.length < 1000000 ∧ ds.length < 1000000 ∧ Q (.bl (decide (us = ds))) H
theorem sc__law_numbers : FnScope ["_law_told", "_law_due", "_law_k"] ["_law_told", "_law_due"] (defScope s__law_numbers) := ⟨rfl, rfl, rfl, by decide +kernel, rfl, by decide +kernel, by decide +kernel⟩
theorem ok__law_numbers {P : Program} {w : World} {K : PySem.W.Frag} {mg : Str → Option Value} {base : Heap} {a : AD} (T : Txt P K mg a) (G__law_whole_number : FnA P w K mg base 2 a.f__law_whole_number ["_law_told"] (sp__law_whole_number a)) : FnA P w K mg base 3 a.f__law_numbers ["_law_told", "_law_due"] (sp__law_numbers a) := by
  obtain ⟨fd, F, b⟩ := T.F__law_numbers
  refine FnA.of F sc__law_numbers b (fun vs H Q E h => by first | (obtain ⟨rfl, _⟩ := h; rfl) | (obtain ⟨_, rfl, _⟩ := h; rfl) | (obtain ⟨_, _, rfl, _⟩ := h; rfl) | (obtain ⟨_, _, _, rfl, _⟩ := h; rfl) | (obtain ⟨_, _, _, _, rfl, _⟩ := h; rfl) | (obtain ⟨_, _, _, _, _, rfl, _⟩ := h; rfl) | (obtain ⟨_, _, _, _, _, _, rfl, _⟩ := h; rfl) | (obtain ⟨_, _, _, _, _, _, _, rfl, _⟩ := h; rfl) | (obtain ⟨_, _, _, _, _, _, _, _, rfl, _⟩ := h; rfl) | (obtain ⟨_, _, _, _, _, _, _, _, _, rfl, _⟩ := h; rfl) | (obtain ⟨_, _, _, _, _, _, _, _, _, _, rfl, _⟩ := h; rfl) | (obtain ⟨_, _, _, _, _, _, _, _, _, _, _, rfl, _⟩ := h; rfl) | (obtain ⟨_, _, _, _, _, _, _, _, _, _, _, _, rfl, _⟩ := h; rfl) | (obtain ⟨_, _, _, _, _, _, _, _, _, _, _, _, _, rfl, _⟩ := h; rfl) | (obtain ⟨_, _, _, _, _, _, _, _, _, _, _, _, _, _, rfl, _⟩ := h; rfl) | (obtain ⟨_, _, _, _, _, _, _, _, _, _, _, _, _, _, _, rfl, _⟩ := h; rfl) | (obtain ⟨_, _, _, _, _, _, _, _, _, _, _, _, _, _, _, _, rfl, _⟩ := h; rfl) | (obtain ⟨_, _, _, _, _, _, _, _, _, _, _, _, _, _, _, _, _, rfl, _⟩ := h; rfl) | (obtain ⟨_, _, _, _, _, _, _, _, _, _, _, _, _, _, _, _, _, _, rfl, _⟩ := h; rfl) | (obtain ⟨_, _, _, _, _, _, _, _, _, _, _, _, _, _, _, _, _, _, _, rfl, _⟩ := h; rfl) | (obtain ⟨_, _, _, _, _, _, _, _, _, _, _, _, _, _, _, _, _, _, _, _, rfl, _⟩ := h; rfl) | (obtain ⟨_, _, _, _, _, _, _, _, _, _, _, _, _, _, _, _, _, _, _, _, _, rfl, _⟩ := h; rfl) | (obtain ⟨_, _, _, _, _, _, _, _, _, _, _, _, _, _, _, _, _, _, _, _, _, _, rfl, _⟩ := h; rfl) | (obtain ⟨_, _, _, _, _, _, _, _, _, _, _, _, _, _, _, _, _, _, _, _, _, _, _, rfl, _⟩ := h; rfl)) (fun cdv A outer s H vs Q E hr tk pz h => ?_)
  have hu := hr.units
  have hrH := L2H.roomH_of hr
  obtain ⟨p, q, us, ds, rfl, hp, hq, hl1, hl2, k⟩ := h
  refine ⟨_, (pss_cons (ps_if (PW.pt (pw_or (pt_not (pt_tru (pe_callB (call_isi) rfl T.b_isinstance (by decide +kernel) (pa_cons (pv 0) (pa_cons (pe_bltn (v := .ty "list") rfl T.b_list (by decide +kernel) rfl) pa_nil))))) (pw_or1 (pt_cmpA (o_ne hu) (pe_callB (b_len) rfl T.b_len (by decide +kernel) (pa_cons (pv 0) pa_nil)) (pe_callB (b_len) rfl T.b_len (by decide +kernel) (pa_cons (pv 1) pa_nil)) (nomark _))))) (pss_one (ps_ret pe_bl)) pss_nil)
      (pss_cons (ps_for pz rfl (pi_range1 rfl T.b_range (pa_cons (pe_callB (b_len) rfl T.b_len (by decide +kernel) (pa_cons (pv 1) pa_nil)) pa_nil)) (pg_name (i := 2) sc__law_numbers.nd rfl (Or.inl rfl))
      (pss_one (ps_if (PW.pt (pw_or (pt_not (pt_tru (pe_callA G__law_whole_number (Room.mono hr (by decide)) T.n__law_whole_number tk (pa_cons (pe_ix ix_seq (pv 0) (pv 2) (fun _ _ => rfl)) pa_nil)))) (pw_or1 (pt_cmpA (o_ne hu) (pe_ix ix_seq (pv 0) (pv 2) (fun _ _ => rfl)) (pe_ix ix_seq (pv 1) (pv 2) (fun _ _ => rfl)) (nomark _))))) (pss_one (ps_ret pe_bl)) pss_nil)))
      (pss_one (ps_ret pe_bl)))), ?_⟩
  show (_ : Ends → L2.St → Hp → Prop) _ [some _, some _, none] _
  try dsimp only [L2H.cxH, cxOf]
  walk_at "w"
  refine w_iteN (fun c => ?_) (fun c => ?_)
  · walk_at "w"
    rw [show decide (us = ds) = false by simp; intro z; exact c (by rw [z])] at k
    exact k
  · walk_at "w"
    refine w_rng1 (n := (ds.length : Int)) (by omega) (by omega) (fun i σ' H' => (∃ x, σ' = [some (.ref p), some (.ref q), x]) ∧ H' = H ∧ ∀ j, j < i → us.getD j default = ds.getD j default) ⟨⟨_, rfl⟩, rfl, fun j hj => by omega⟩ ?_ ?_
    · rintro i σ' H' hi ⟨⟨x, rfl⟩, rfl, hj⟩
      walk_at "w"
      refine ⟨_, rfl, ?_⟩
      walk_at "w"
      refine w_iteN (fun c2 => ?_) (fun c2 => ?_)
      · walk_at "w"
        rw [ne_at c2] at k
        exact k
      · walk_at "w"
        refine ⟨⟨_, rfl⟩, rfl, fun j hj' => ?_⟩
        by_cases z : j < i
        · exact hj j z
        · obtain rfl : j = i := by omega
          exact c2
    · rintro σ' H' ⟨⟨x, rfl⟩, rfl, hj⟩
      walk_at "w"
      rw [show decide (us = ds) = true by simp; exact getD_ext (by omega) (fun j h => hj j (by omega))] at k
      exact k
def sp__law_words (a : AD) : Sp := fun vs H Q _ => ∃ (p q : Addr) (us ds : List Str), vs = [.ref p, .ref q] ∧ H p = some (.lst (us.map V.str)) ∧ H q = some (.lst (ds.map V.str)) ∧ us.length < 1000000 ∧ ds.length < 1000000 ∧ Q (.bl (decide (us = ds))) H
/-! ### the law's own standing: [size, rights, lefts, flags] -/
def Wd (H : Hp) (w r l f : Addr) (n : Int) (R L : List Int) (F : List Bool) : Prop := H w = some (.lst [.int n, .ref r, .ref l, .ref f]) ∧ H r = some (.lst (R.map V.int)) ∧ H l = some (.lst (L.map V.int)) ∧ H f = some (.lst (F.map V.bl)) ∧ w ≠ r ∧ w ≠ l ∧ w ≠ f ∧ r ≠ l ∧ r ≠ f ∧ l ≠ f
theorem Wd.kp {ms : List Addr} {H H' : Hp} {w r l f : Addr} {n : Int} {R L : List Int} {F : List Bool} (h : Wd H w r l f n R L F) (k : Kp ms H H') (h1 : w ∉ ms) (h2 : r ∉ ms) (h3 : l ∉ ms) (h4 : f ∉ ms) : Wd H' w r l f n R L F :=
  ⟨k.at h.1 h1, k.at h.2.1 h2, k.at h.2.2.1 h3, k.at h.2.2.2.1 h4, h.2.2.2.2⟩
theorem Wd.kp0 {H H' : Hp} {w r l f : Addr} {n : Int} {R L : List Int} {F : List Bool} (h : Wd H w r l f n R L F) (k : Kp [] H H') : Wd H' w r l f n R L F := h.kp k List.not_mem_nil List.not_mem_nil List.not_mem_nil List.not_mem_nil
def sp__law_state (a : AD) : Sp := fun vs H Q _ => ∃ (w r l f : Addr) (n g : Int) (R L : List Int) (F : List Bool), vs = [.ref w, .int g] ∧ Wd H w r l f n R L F ∧ 0 ≤ g ∧ g.toNat < R.length ∧ (g + 1).toNat < L.length ∧ Q (.str (stateOf R L g)) H
theorem sc__law_state : FnScope ["_law_world", "_law_place", "_law_from_left", "_law_from_right"] ["_law_world", "_law_place"] (defScope s__law_state) := ⟨rfl, rfl, rfl, by decide +kernel, rfl, by decide +kernel, by decide +kernel⟩
theorem ok__law_state {P : Program} {w : World} {K : PySem.W.Frag} {mg : Str → Option Value} {base : Heap} {a : AD} (T : Txt P K mg a) : FnA P w K mg base 2 a.f__law_state ["_law_world", "_law_place"] (sp__law_state a) := by
  obtain ⟨fd, F, b⟩ := T.F__law_state
  refine FnA.of F sc__law_state b (fun vs H Q E h => by first | (obtain ⟨rfl, _⟩ := h; rfl) | (obtain ⟨_, rfl, _⟩ := h; rfl) | (obtain ⟨_, _, rfl, _⟩ := h; rfl) | (obtain ⟨_, _, _, rfl, _⟩ := h; rfl) | (obtain ⟨_, _, _, _, rfl, _⟩ := h; rfl) | (obtain ⟨_, _, _, _, _, rfl, _⟩ := h; rfl) | (obtain ⟨_, _, _, _, _, _, rfl, _⟩ := h; rfl) | (obtain ⟨_, _, _, _, _, _, _, rfl, _⟩ := h; rfl) | (obtain ⟨_, _, _, _, _, _, _, _, rfl, _⟩ := h; rfl) | (obtain ⟨_, _, _, _, _, _, _, _, _, rfl, _⟩ := h; rfl) | (obtain ⟨_, _, _, _, _, _, _, _, _, _, rfl, _⟩ := h; rfl) | (obtain ⟨_, _, _, _, _, _, _, _, _, _, _, rfl, _⟩ := h; rfl) | (obtain ⟨_, _, _, _, _, _, _, _, _, _, _, _, rfl, _⟩ := h; rfl) | (obtain ⟨_, _, _, _, _, _, _, _, _, _, _, _, _, rfl, _⟩ := h; rfl) | (obtain ⟨_, _, _, _, _, _, _, _, _, _, _, _, _, _, rfl, _⟩ := h; rfl) | (obtain ⟨_, _, _, _, _, _, _, _, _, _, _, _, _, _, _, rfl, _⟩ := h; rfl) | (obtain ⟨_, _, _, _, _, _, _, _, _, _, _, _, _, _, _, _, rfl, _⟩ := h; rfl) | (obtain ⟨_, _, _, _, _, _, _, _, _, _, _, _, _, _, _, _, _, rfl, _⟩ := h; rfl) | (obtain ⟨_, _, _, _, _, _, _, _, _, _, _, _, _, _, _, _, _, _, rfl, _⟩ := h; rfl) | (obtain ⟨_, _, _, _, _, _, _, _, _, _, _, _, _, _, _, _, _, _, _, rfl, _⟩ := h; rfl) | (obtain ⟨_, _, _, _, _, _, _, _, _, _, _, _, _, _, _, _, _, _, _, _, rfl, _⟩ := h; rfl) | (obtain ⟨_, _, _, _, _, _, _, _, _, _, _, _, _, _, _, _, _, _, _, _, _, rfl, _⟩ := h; rfl) | (obtain ⟨_, _, _, _, _, _, _, _, _, _, _, _, _, _, _, _, _, _, _, _, _, _, rfl, _⟩ := h; rfl) | (obtain ⟨_, _, _, _, _, _, _, _, _, _, _, _, _, _, _, _, _, _, _, _, _, _, _, rfl, _⟩ := h; rfl)) (fun cdv A outer s H vs Q E hr tk pz h => ?_)
  have hu := hr.units
  have hrH := L2H.roomH_of hr
  obtain ⟨w, r, l, f, n, g, R, L, F, rfl, ⟨hw, hr', hl, hf, _⟩, g0, g1, g2, k⟩ := h
  refine ⟨_, (pss_cons (ps_set (i := 2) sc__law_state.nd rfl (Or.inl rfl) (pe_cmpR (o_eq hu) (pe_ix ix_seq (pe_ix ix_seq (pv 0) pe_int (fun _ _ => rfl)) (pv 1) (fun _ _ => rfl)) (pe_op o_add (pv 1) pe_int) (nomark _)))
      (pss_cons (ps_set (i := 3) sc__law_state.nd rfl (Or.inl rfl) (pe_cmpR (o_eq hu) (pe_ix ix_seq (pe_ix ix_seq (pv 0) pe_int (fun _ _ => rfl)) (pe_op o_add (pv 1) pe_int) (fun _ _ => rfl)) (pv 1) (nomark _)))
      (pss_cons (ps_if (PW.pt (pw_and (pt_tru (pv 2)) (pw_and1 (pt_tru (pv 3))))) (pss_one (ps_ret pe_str)) pss_nil)
      (pss_cons (ps_if (pt_tru (pv 2)) (pss_one (ps_ret pe_str)) pss_nil)
      (pss_cons (ps_if (pt_tru (pv 3)) (pss_one (ps_ret pe_str)) pss_nil)
      (pss_one (ps_ret pe_str))))))), ?_⟩
  show (_ : Ends → L2.St → Hp → Prop) _ [some _, some _, none, none] _
  try dsimp only [L2H.cxH, cxOf]
  unfold stateOf at k
  walk_at "w"
  by_cases c1 : R.getD g.toNat default = g + 1
  · rw [if_pos c1] at k
    rw [show decide (R.getD g.toNat default = g + 1) = true by simpa using c1]
    by_cases c2 : L.getD (g + 1).toNat default = g
    · rw [if_pos c2] at k
      rw [show decide (L.getD (g + 1).toNat default = g) = true by simpa using c2]
      walk_at "w"
      exact k
    · rw [if_neg c2] at k
      rw [show decide (L.getD (g + 1).toNat default = g) = false by simpa using c2]
      walk_at "w"
      exact k
  · rw [if_neg c1] at k
    rw [show decide (R.getD g.toNat default = g + 1) = false by simpa using c1]
    by_cases c2 : L.getD (g + 1).toNat default = g
    · rw [if_pos c2] at k
      rw [show decide (L.getD (g + 1).toNat default = g) = true by simpa using c2]
      walk_at "w"
      exact k
    · rw [if_neg c2] at k
      rw [show decide (L.getD (g + 1).toNat default = g) = false by simpa using c2]
      walk_at "w"
      exact k

/-! ### a drawn standing -/
/-- as WF, but the flags are of the law's own list -/
theorem rep_get {α : Type} [Inhabited α] {n i : Nat} {u : α} (h : i < n) : (List.replicate n u).getD i default = u := by
  simp [List.getD, List.getElem?_replicate, h]
theorem fm_rep {β : Type} {b : β} : ∀ {k : Nat}, (List.range k).filterMap (fun _ => some b) = List.replicate k b
  | 0 => rfl
  | k + 1 => by rw [List.range_succ, List.filterMap_append, fm_rep, List.replicate_succ']; rfl
def r0 (n : Int) : List Int := (List.range (n + 1).toNat).map fun i : Nat => (i : Int) + 1
def l0 (n : Int) : List Int := (List.range (n + 2).toNat).map fun i : Nat => (i : Int) - 1
theorem wf0 {n : Int} (n0 : 0 ≤ n) (n1 : n ≤ 60) : WF n (r0 n) (l0 n) (List.replicate (n + 2).toNat false) where
  n0 := n0
  n1 := n1
  hR := by simp [r0]
  hL := by simp [l0]
  hF := by simp
  r := fun i u h => by
    unfold r0 at h
    rw [List.getElem?_map] at h
    by_cases z : i < (n + 1).toNat
    · rw [List.getElem?_range z] at h
      have h : (i : Int) + 1 = u := Option.some.inj h
      omega
    · rw [List.getElem?_eq_none (by simp; omega)] at h
      cases h
  l0 := by
    unfold l0
    rw [List.getElem?_map, List.getElem?_range (by omega)]; rfl
  l := fun i u hi h => by
    unfold l0 at h
    rw [List.getElem?_map] at h
    by_cases z : i < (n + 2).toNat
    · rw [List.getElem?_range z] at h
      have h : (i : Int) - 1 = u := Option.some.inj h
      omega
    · rw [List.getElem?_eq_none (by simp; omega)] at h
      cases h
  f0 := rep_get (by omega)
  f1 := rep_get (by omega)
theorem get_set {us : List Int} {i j : Nat} {u v : Int} (h : (us.set i u)[j]? = some v) : (i = j ∧ v = u) ∨ (i ≠ j ∧ us[j]? = some v) := by
  by_cases z : i = j
  · subst z
    rw [List.getElem?_set_self'] at h
    cases q : us[i]? with
    | none => rw [q] at h; cases h
    | some x => rw [q] at h; cases h; exact .inl ⟨rfl, rfl⟩
  · rw [List.getElem?_set_ne z] at h
    exact .inr ⟨z, h⟩
theorem WF.setR {n : Int} {R L : List Int} {F : List Bool} (w : WF n R L F) {i : Nat} {u : Int} (h : (i : Int) < u ∧ u ≤ n + 1) : WF n (R.set i u) L F := by
  refine ⟨w.n0, w.n1, by rw [List.length_set]; exact w.hR, w.hL, w.hF, fun j v e => ?_, w.l0, w.l, w.f0, w.f1⟩
  rcases get_set e with ⟨rfl, rfl⟩ | ⟨_, e⟩
  · exact h
  · exact w.r j v e
theorem WF.setL {n : Int} {R L : List Int} {F : List Bool} (w : WF n R L F) {i : Nat} {u : Int} (h : 1 ≤ i) (h2 : 0 ≤ u ∧ u < (i : Int)) : WF n R (L.set i u) F := by
  refine ⟨w.n0, w.n1, w.hR, by rw [List.length_set]; exact w.hL, w.hF, w.r, by rw [List.getElem?_set_ne (by omega)]; exact w.l0, fun j v hj e => ?_, w.f0, w.f1⟩
  rcases get_set e with ⟨rfl, rfl⟩ | ⟨_, e⟩
  · exact h2
  · exact w.l j v hj e
theorem WF.setF {n : Int} {R L : List Int} {F : List Bool} (w : WF n R L F) {i : Nat} {u : Bool} (h : 1 ≤ i) (h2 : (i : Int) ≤ n) : WF n R L (F.set i u) :=
  ⟨w.n0, w.n1, w.hR, w.hL, by rw [List.length_set]; exact w.hF, w.r, w.l0, w.l, by rw [getD_set_ne (by omega)]; exact w.f0, by rw [getD_set_ne (by omega)]; exact w.f1⟩
/-- a new standing -/
def wdSp (b : Addr) (n : Int) (H : Hp) (Q : VK) : Prop := ∀ (w r l f : Addr) (R L : List Int) (F : List Bool) (H' : Hp), H w = none → H r = none → H l = none → H f = none → Wd H' w r l f n R L F → WF n R L F → Bag H' b → Kp [b] H H' → Q (.ref w) H'
def sp__law_standing (a : AD) : Sp := fun vs H Q _ => ∃ (b : Addr) (n : Int), vs = [.ref b, .int n] ∧ Bag H b ∧ 0 ≤ n ∧ n ≤ 60 ∧ wdSp b n H Q
def sp__law_text (a : AD) : Sp := fun vs H Q _ => ∃ (w r l f : Addr) (n : Int) (R L : List Int) (F : List Bool), vs = [.ref w] ∧ Wd H w r l f n R L F ∧ WF n R L F ∧ ∀ H', Kp [] H H' → Q (.str (textOf n R L F)) H'
/-- the law's step -/
def stR (R L : List Int) (o : Int) : List Int := R.set (L.getD o.natAbs default).toNat (if o < 0 then R.getD o.natAbs default else (o.natAbs : Int))
def sp__law_step (a : AD) : Sp := fun vs H Q _ => ∃ (w r l f : Addr) (n o : Int) (R L : List Int) (F : List Bool), vs = [.ref w, .int o] ∧ Wd H w r l f n R L F ∧ WF n R L F ∧ IsOp n o ∧ ∀ H', Wd H' w r l f n (apR L R o) (apL L R o) (apF F o) → WF n (apR L R o) (apL L R o) (apF F o) → Kp [r, l, f] H H' → Q .non H'
theorem WF.at {n : Int} {R L : List Int} {F : List Bool} (w : WF n R L F) {v : Nat} (h1 : 1 ≤ v) (h2 : (v : Int) ≤ n) : 0 ≤ L.getD v default ∧ L.getD v default < (v : Int) ∧ (v : Int) < R.getD v default ∧ R.getD v default ≤ n + 1 := by
  have hl : v < L.length := by rw [w.hL]; omega
  have hr : v < R.length := by rw [w.hR]; omega
  have a1 := w.l v _ h1 (getD_some hl)
  have a2 := w.r v _ (getD_some hr)
  omega
theorem WF.ap {n : Int} {R L : List Int} {F : List Bool} (w : WF n R L F) {o : Int} (h : IsOp n o) : WF n (apR L R o) (apL L R o) (apF F o) := by
  have h1 := h.1
  have h2 := h.2
  have q := w.at (v := o.natAbs) (by omega) h2
  unfold apR apL apF
  have wr : WF n (R.set (L.getD o.natAbs default).toNat (if o < 0 then R.getD o.natAbs default else (o.natAbs : Int))) L F := w.setR (by split <;> omega)
  have wl := wr.setL (i := (R.getD o.natAbs default).toNat) (u := if o < 0 then L.getD o.natAbs default else (o.natAbs : Int)) (by omega) (by split <;> omega)
  exact wl.setF (by omega) (by omega)
theorem sc__law_step : FnScope ["_law_world", "_law_deed", "_law_node", "_law_low", "_law_high", "_law_rights", "_law_lefts", "_law_flags"] ["_law_world", "_law_deed"] (defScope s__law_step) := ⟨rfl, rfl, rfl, by decide +kernel, rfl, by decide +kernel, by decide +kernel⟩
theorem ok__law_step {P : Program} {w : World} {K : PySem.W.Frag} {mg : Str → Option Value} {base : Heap} {a : AD} (T : Txt P K mg a) : FnA P w K mg base 2 a.f__law_step ["_law_world", "_law_deed"] (sp__law_step a) := by
  obtain ⟨fd, F, b⟩ := T.F__law_step
  refine FnA.of F sc__law_step b (fun vs H Q E h => by first | (obtain ⟨rfl, _⟩ := h; rfl) | (obtain ⟨_, rfl, _⟩ := h; rfl) | (obtain ⟨_, _, rfl, _⟩ := h; rfl) | (obtain ⟨_, _, _, rfl, _⟩ := h; rfl) | (obtain ⟨_, _, _, _, rfl, _⟩ := h; rfl) | (obtain ⟨_, _, _, _, _, rfl, _⟩ := h; rfl) | (obtain ⟨_, _, _, _, _, _, rfl, _⟩ := h; rfl) | (obtain ⟨_, _, _, _, _, _, _, rfl, _⟩ := h; rfl) | (obtain ⟨_, _, _, _, _, _, _, _, rfl, _⟩ := h; rfl) | (obtain ⟨_, _, _, _, _, _, _, _, _, rfl, _⟩ := h; rfl) | (obtain ⟨_, _, _, _, _, _, _, _, _, _, rfl, _⟩ := h; rfl) | (obtain ⟨_, _, _, _, _, _, _, _, _, _, _, rfl, _⟩ := h; rfl) | (obtain ⟨_, _, _, _, _, _, _, _, _, _, _, _, rfl, _⟩ := h; rfl) | (obtain ⟨_, _, _, _, _, _, _, _, _, _, _, _, _, rfl, _⟩ := h; rfl) | (obtain ⟨_, _, _, _, _, _, _, _, _, _, _, _, _, _, rfl, _⟩ := h; rfl) | (obtain ⟨_, _, _, _, _, _, _, _, _, _, _, _, _, _, _, rfl, _⟩ := h; rfl) | (obtain ⟨_, _, _, _, _, _, _, _, _, _, _, _, _, _, _, _, rfl, _⟩ := h; rfl) | (obtain ⟨_, _, _, _, _, _, _, _, _, _, _, _, _, _, _, _, _, rfl, _⟩ := h; rfl) | (obtain ⟨_, _, _, _, _, _, _, _, _, _, _, _, _, _, _, _, _, _, rfl, _⟩ := h; rfl) | (obtain ⟨_, _, _, _, _, _, _, _, _, _, _, _, _, _, _, _, _, _, _, rfl, _⟩ := h; rfl) | (obtain ⟨_, _, _, _, _, _, _, _, _, _, _, _, _, _, _, _, _, _, _, _, rfl, _⟩ := h; rfl) | (obtain ⟨_, _, _, _, _, _, _, _, _, _, _, _, _, _, _, _, _, _, _, _, _, rfl, _⟩ := h; rfl) | (obtain ⟨_, _, _, _, _, _, _, _, _, _, _, _, _, _, _, _, _, _, _, _, _, _, rfl, _⟩ := h; rfl) | (obtain ⟨_, _, _, _, _, _, _, _, _, _, _, _, _, _, _, _, _, _, _, _, _, _, _, rfl, _⟩ := h; rfl)) (fun cdv A outer s H vs Q E hr tk pz h => ?_)
  have hu := hr.units
  have hrH := L2H.roomH_of hr
  obtain ⟨w, r, l, f, n, o, R, L, F, rfl, ⟨hw, hr', hl, hf, d1, d2, d3, d4, d5, d6⟩, W, hop, k⟩ := h
  refine ⟨_, (pss_cons (ps_set (i := 2) sc__law_step.nd rfl (Or.inl rfl) (pe_callB (b_abs) rfl T.b_abs (by decide +kernel) (pa_cons (pv 1) pa_nil)))
      (pss_cons (ps_set (i := 3) sc__law_step.nd rfl (Or.inl rfl) (pe_ix ix_seq (pe_ix ix_seq (pv 0) pe_int (fun _ _ => rfl)) (pv 2) (fun _ _ => rfl)))
      (pss_cons (ps_set (i := 4) sc__law_step.nd rfl (Or.inl rfl) (pe_ix ix_seq (pe_ix ix_seq (pv 0) pe_int (fun _ _ => rfl)) (pv 2) (fun _ _ => rfl)))
      (pss_cons (ps_set (i := 5) sc__law_step.nd rfl (Or.inl rfl) (pe_ix ix_seq (pv 0) pe_int (fun _ _ => rfl)))
      (pss_cons (ps_set (i := 6) sc__law_step.nd rfl (Or.inl rfl) (pe_ix ix_seq (pv 0) pe_int (fun _ _ => rfl)))
      (pss_cons (ps_set (i := 7) sc__law_step.nd rfl (Or.inl rfl) (pe_ix ix_seq (pv 0) pe_int (fun _ _ => rfl)))
      (pss_cons (ps_if (pt_cmpA op_lt (pv 1) pe_int (nomark _)) (pss_cons (ps_asg (pv 4) (pg_sub (pv 5) (pv 3) set_list))
      (pss_one (ps_asg (pv 3) (pg_sub (pv 6) (pv 4) set_list)))) (pss_cons (ps_asg (pv 2) (pg_sub (pv 5) (pv 3) set_list))
      (pss_one (ps_asg (pv 2) (pg_sub (pv 6) (pv 4) set_list)))))
      (pss_one (ps_asg (pe_cmpR op_lt (pv 1) pe_int (nomark _)) (pg_sub (pv 7) (pv 2) set_list)))))))))), ?_⟩
  show (_ : Ends → L2.St → Hp → Prop) _ [some _, some _, none, none, none, none, none, none] _
  try dsimp only [L2H.cxH, cxOf]
  have n0 := W.n0
  have w1 := W.hR
  have w2 := W.hL
  have w3 := W.hF
  have ho1 := hop.1
  have ho2 := hop.2
  have q := W.at (v := o.natAbs) (by omega) ho2
  have Wn := W.ap hop
  walk_at "w"
  simp only [Int.toNat_natCast]
  unfold apL apR apF at k Wn
  refine w_ite (fun c2 => ?_) (fun c2 => ?_)
  · rw [if_pos c2, if_pos c2] at k Wn
    walk_at "w"
    exact k _ ⟨by walk_at "hp", by walk_at "hp", by walk_at "hp", upd_same, d1, d2, d3, d4, d5, d6⟩ Wn (((Kp.refl.mut (by simp)).mut (by simp)).mut (by simp))
  · rw [if_neg c2, if_neg c2] at k Wn
    walk_at "w"
    exact k _ ⟨by walk_at "hp", by walk_at "hp", by walk_at "hp", upd_same, d1, d2, d3, d4, d5, d6⟩ Wn (((Kp.refl.mut (by simp)).mut (by simp)).mut (by simp))

/-! ### apart -/
theorem sep_of {H : Hp} {xs ys : List Addr} (fresh : ∀ x ∈ xs, H x = none) (live : ∀ y ∈ ys, ∃ o, H y = some o) : ∀ x ∈ xs, x ∉ ys := fun x hx hy => by
  obtain ⟨o, e⟩ := live x hy
  rw [fresh x hx] at e; cases e
theorem sep_of' {H : Hp} {xs ys : List Addr} (live : ∀ y ∈ xs, ∃ o, H y = some o) (fresh : ∀ x ∈ ys, H x = none) : ∀ x ∈ xs, x ∉ ys := fun x hx hy => by
  obtain ⟨o, e⟩ := live x hx
  rw [fresh x hy] at e; cases e
theorem Lnk.live {a : AD} {H : Hp} {x l r f : Addr} {n : Int} {L R : List Int} {F : List Bool} (h : Lnk a H x l r f n L R F) : ∀ y ∈ [x, l, r, f], ∃ o, H y = some o := by
  obtain ⟨⟨dx, h1⟩, h2, h3, h4, _⟩ := h
  intro y hy
  simp only [List.mem_cons, List.mem_nil_iff, or_false] at hy
  rcases hy with rfl | rfl | rfl | rfl
  · exact ⟨_, h1⟩
  · exact ⟨_, h2⟩
  · exact ⟨_, h3⟩
  · exact ⟨_, h4⟩
theorem Wd.live {H : Hp} {w r l f : Addr} {n : Int} {R L : List Int} {F : List Bool} (h : Wd H w r l f n R L F) : ∀ y ∈ [w, r, l, f], ∃ o, H y = some o := by
  obtain ⟨h1, h2, h3, h4, _⟩ := h
  intro y hy
  simp only [List.mem_cons, List.mem_nil_iff, or_false] at hy
  rcases hy with rfl | rfl | rfl | rfl
  · exact ⟨_, h1⟩
  · exact ⟨_, h2⟩
  · exact ⟨_, h3⟩
  · exact ⟨_, h4⟩
theorem four {H : Hp} {x l r f : Addr} (h1 : H x = none) (h2 : H l = none) (h3 : H r = none) (h4 : H f = none) : ∀ y ∈ [x, l, r, f], H y = none := by
  intro y hy
  simp only [List.mem_cons, List.mem_nil_iff, or_false] at hy
  rcases hy with rfl | rfl | rfl | rfl <;> assumption
theorem Lnk.kpS {a : AD} {ms : List Addr} {H H' : Hp} {x l r f : Addr} {n : Int} {L R : List Int} {F : List Bool} (h : Lnk a H x l r f n L R F) (k : Kp ms H H') (s : ∀ y ∈ [x, l, r, f], y ∉ ms) : Lnk a H' x l r f n L R F :=
  h.kp k (s x (by simp)) (s l (by simp)) (s r (by simp)) (s f (by simp))
theorem Wd.kpS {ms : List Addr} {H H' : Hp} {w r l f : Addr} {n : Int} {R L : List Int} {F : List Bool} (h : Wd H w r l f n R L F) (k : Kp ms H H') (s : ∀ y ∈ [w, r, l, f], y ∉ ms) : Wd H' w r l f n R L F :=
  h.kp k (s w (by simp)) (s r (by simp)) (s l (by simp)) (s f (by simp))
theorem sep_sub {xs ys zs : List Addr} (s : ∀ x ∈ xs, x ∉ ys) (h : ∀ z ∈ zs, z ∈ ys) : ∀ x ∈ xs, x ∉ zs := fun x hx hz => s x hx (h x hz)
theorem sep_mono {xs ys xs' ys' : List Addr} (s : ∀ x ∈ xs, x ∉ ys) (h1 : ∀ z ∈ xs', z ∈ xs) (h2 : ∀ z ∈ ys', z ∈ ys) : ∀ x ∈ xs', x ∉ ys' := fun x hx hz => s x (h1 x hx) (h2 x hz)
theorem sep_swap {xs ys : List Addr} (s : ∀ x ∈ xs, x ∉ ys) : ∀ y ∈ ys, y ∉ xs := fun y hy hx => s y hx hy
theorem ap_app {n : Int} {R L : List Int} {F : List Bool} (w : WF n R L F) {o x : Int} (h : IsOp n o) : apR L (R ++ [x]) o = apR L R o ++ [x] ∧ apL L (R ++ [x]) o = apL L R o := by
  have h2 := h.2
  have h1 := h.1
  have q := w.at (v := o.natAbs) (by omega) h2
  have hR := w.hR
  have e : (R ++ [x]).getD o.natAbs default = R.getD o.natAbs default := by
    rw [List.getD_eq_getElem?_getD, List.getD_eq_getElem?_getD, List.getElem?_append_left (by omega)]
  unfold apR apL
  rw [e, List.set_append_left _ _ (by omega)]
  exact ⟨rfl, rfl⟩

/-! ### changes of gaps -/
def sp_Links_operation_on (a : AD) : Sp := fun vs H Q E => ∃ (x l r f : Addr) (n v : Int) (L R : List Int) (F : List Bool), vs = [.ref x, .int v] ∧ Obj a H x l r f n L R F ∧ 0 ≤ v ∧ v ≤ n + 1 ∧ Q (.int (if F.getD v.toNat default = true then v else -v)) H
def sp_touched_gaps (a : AD) : Sp := fun vs H Q E => ∃ (x l r f : Addr) (n v : Int) (L R : List Int) (F : List Bool), vs = [.ref x, .int v] ∧ Obj a H x l r f n L R F ∧ 1 ≤ v ∧ v ≤ n ∧ ∀ p, H p = none → Q (.ref p) (upd H p (.lst ([L.getD v.toNat default, R.getD v.toNat default - 1].map V.int)))
/-- the changes at the touched gaps -/
def chgAt (R L R' L' : List Int) (g : Int) : List (List V) := if stateOf R L g = stateOf R' L' g then [] else [[.int g, .str (stateOf R L g), .str (stateOf R' L' g)]]
def chgF (R L : List Int) (o : Int) : List (List V) := chgAt R L (apR L R o) (apL L R o) (L.getD o.natAbs default) ++ chgAt R L (apR L R o) (apL L R o) (R.getD o.natAbs default - 1)
/-- the refusals of an operation -/
def refuseSp (a : AD) (n o : Int) (F : List Bool) (H : Hp) (E : XK) (k : Prop) : Prop := (¬IsOp n o → xBadOperation a (.int o) (.int 0) E H) ∧ (IsOp n o → F.getD o.natAbs default = decide (o < 0) → xIllegal a (.int o) (.int 0) E H) ∧ (IsOp n o → F.getD o.natAbs default ≠ decide (o < 0) → k)
def sp_gap_changes (a : AD) : Sp := fun vs H Q E => ∃ (x l r f : Addr) (n o : Int) (L R : List Int) (F : List Bool), vs = [.ref x, .int o] ∧ Obj a H x l r f n L R F ∧
  refuseSp a n o F H E (0 ≤ L.getD o.natAbs default ∧ L.getD o.natAbs default ≤ n ∧ 1 ≤ R.getD o.natAbs default ∧ R.getD o.natAbs default ≤ n + 1 ∧ ∀ p xs H', H p = none → Kp [] H H' → H' p = some (.lst xs) → Tps H' xs (chgF R L o) → Q (.ref p) H')
/-- the gaps of the foreign writes -/
def frgF (R L : List Int) (v : Int) : List Int := (if L.getD v.toNat default ≠ v - 1 ∧ R.getD (L.getD v.toNat default).toNat default = L.getD v.toNat default + 1 then [L.getD v.toNat default] else []) ++
  (if R.getD v.toNat default ≠ v + 1 ∧ L.getD (R.getD v.toNat default).toNat default = R.getD v.toNat default - 1 then [R.getD v.toNat default - 1] else [])
def sp_foreign_writes (a : AD) : Sp := fun vs H Q E => ∃ (x l r f : Addr) (n o : Int) (L R : List Int) (F : List Bool), vs = [.ref x, .int o] ∧ Obj a H x l r f n L R F ∧
  refuseSp a n o F H E (0 ≤ L.getD o.natAbs default ∧ L.getD o.natAbs default ≤ n ∧ 1 ≤ R.getD o.natAbs default ∧ R.getD o.natAbs default ≤ n + 1 ∧ ∀ p H', H p = none → Kp [] H H' → H' p = some (.lst ((frgF R L (o.natAbs : Int)).map V.int)) → Q (.ref p) H')

/-! ### runs of operations -/
def stS (s : List Int × List Int × List Bool) (o : Int) : List Int × List Int × List Bool := (apR s.2.1 s.1 o, apL s.2.1 s.1 o, apF s.2.2 o)
def runS (s : List Int × List Int × List Bool) (log : List Int) : List Int × List Int × List Bool := log.foldl stS s
def OkAt (n : Int) (s : List Int × List Int × List Bool) (o : Int) : Prop := IsOp n o ∧ s.2.2.getD o.natAbs default ≠ decide (o < 0)
def WFs (n : Int) (s : List Int × List Int × List Bool) : Prop := WF n s.1 s.2.1 s.2.2
def okTo (n : Int) (s : List Int × List Int × List Bool) (log : List Int) (i : Nat) : Prop := ∀ (j : Nat) (o : Int), j < i → log[j]? = some o → OkAt n (runS s (log.take j)) o
theorem runS_snoc (s : List Int × List Int × List Bool) (l : List Int) (o : Int) : runS s (l ++ [o]) = stS (runS s l) o := by
  unfold runS
  rw [List.foldl_append]; rfl
theorem runS_wf {n : Int} {s : List Int × List Int × List Bool} {log : List Int} (w : WFs n s) : ∀ i, i ≤ log.length → okTo n s log i → WFs n (runS s (log.take i))
  | 0, _, _ => w
  | i + 1, hi, h => by
    have hu : log[i]? = some log[i] := List.getElem?_eq_getElem (by omega)
    have ih := runS_wf w i (by omega) (fun j o hj => h j o (by omega))
    rw [take_snoc hu, runS_snoc]
    exact WF.ap ih (h i _ (by omega) hu).1
/-- what a run over the log asks -/
def playSp (a : AD) (n : Int) (s : List Int × List Int × List Bool) (log : List Int) (H : Hp) (E : XK) (k : Prop) : Prop :=
  (∀ (i : Nat) (o : Int), log[i]? = some o → okTo n s log i → ¬IsOp n o → xBadOperation a (.int o) (.int (i : Int)) E H) ∧
  (∀ (i : Nat) (o : Int), log[i]? = some o → okTo n s log i → IsOp n o → (runS s (log.take i)).2.2.getD o.natAbs default = decide (o < 0) → xIllegal a (.int o) (.int (i : Int)) E H) ∧
  (okTo n s log log.length → k)
def sp_play (a : AD) : Sp := fun vs H Q E => ∃ (x l r f pl : Addr) (n : Int) (s : List Int × List Int × List Bool) (log : List Int), vs = [.ref x, .ref pl] ∧ Lnk a H x l r f n s.2.1 (s.1 ++ [n + 2]) s.2.2 ∧ WFs n s ∧ H pl = some (.lst (log.map V.int)) ∧ log.length ≤ 100000 ∧
  playSp a n s log H E (newSp a n (runS s log).2.1 ((runS s log).1 ++ [n + 2]) (runS s log).2.2 H Q)

/-! ### a new list -/
theorem gd_app {us : List Int} {x : Int} {i : Nat} (h : i < us.length) : (us ++ [x]).getD i default = us.getD i default := by
  rw [List.getD_eq_getElem?_getD, List.getD_eq_getElem?_getD, List.getElem?_append_left h]
theorem tps_app {H : Hp} {p T : Addr} {xs vs : List V} {ts : List (List V)} (hp : H p = some (.lst xs)) (h : Tps H xs ts) (hT : H T = none) : Tps (upd (upd H T (.tup vs)) p (.lst (xs ++ [.ref T]))) (xs ++ [.ref T]) (ts ++ [vs]) :=
  Tps.snoc ((h.new hT).mut (upd_new hT hp)) (upd_get (Ne.symm (ne_of_none hp hT)) upd_same)
theorem nm_sub {g : Addr} {xs ys : List Addr} (h : g ∉ ys) (s : ∀ z ∈ xs, z ∈ ys) : g ∉ xs := fun z => h (s _ z)
theorem nm_swap {q : Addr} {xs : List Addr} (h : q ∉ xs) : ∀ y ∈ xs, y ∉ [q] := fun y hy z => h (by rw [List.mem_singleton.mp z] at hy; exact hy)
/-- one fresh address is none of those that stand -/
theorem nm_of {H : Hp} {q : Addr} {ys : List Addr} (h : H q = none) (live : ∀ y ∈ ys, ∃ o, H y = some o) : q ∉ ys := fun z => by
  obtain ⟨o, e⟩ := live q z
  rw [h] at e; cases e
theorem rgI_l0 (n : Int) : rgI (-1) (n + 1) = l0 n := by
  unfold rgI l0
  rw [show (n + 1 - -1).toNat = (n + 2).toNat by omega]
  exact List.map_congr_left fun i _ => by omega
theorem rgI_r0 {n : Int} (n0 : 0 ≤ n) : rgI 1 (n + 3) = r0 n ++ [n + 2] := by
  unfold rgI r0
  rw [show (n + 3 - 1).toNat = (n + 1).toNat + 1 by omega, List.range_succ, List.map_append]
  refine congr (congrArg _ ?_) ?_
  · exact List.map_congr_left fun i _ => by omega
  · simp; omega
def s0 (n : Int) : List Int × List Int × List Bool := (r0 n, l0 n, List.replicate (n + 2).toNat false)
theorem wfs0 {n : Int} (n0 : 0 ≤ n) (n1 : n ≤ 60) : WFs n (s0 n) := wf0 n0 n1
/-- the object at x bears the standing s -/
def LkS (a : AD) (H : Hp) (x l r f : Addr) (n : Int) (s : List Int × List Int × List Bool) : Prop := Lnk a H x l r f n s.2.1 (s.1 ++ [n + 2]) s.2.2
theorem LkS.kp0 {a : AD} {H H' : Hp} {x l r f : Addr} {n : Int} {s : List Int × List Int × List Bool} (h : LkS a H x l r f n s) (k : Kp [] H H') : LkS a H' x l r f n s := Lnk.kp0 h k
theorem LkS.obj {a : AD} {H : Hp} {x l r f : Addr} {n : Int} {s : List Int × List Int × List Bool} (h : LkS a H x l r f n s) (W : WFs n s) : Obj a H x l r f n s.2.1 (s.1 ++ [n + 2]) s.2.2 :=
  ⟨h, WF.n0 W, WF.n1 W, WF.hL W, by rw [List.length_append, WF.hR W]; have := WF.n0 W; simp; omega, WF.hF W⟩
/-- what `Links(size)` asks -/
theorem mk_new {a : AD} {n : Int} {H : Hp} {Q : Addr → Hp → Prop} {E : XK} (hb : ¬(0 ≤ n ∧ n ≤ 60) → xBadSize a (.int n) E H) (k : 0 ≤ n → n ≤ 60 → ∀ (x l r f : Addr) (H' : Hp), H x = none → H l = none → H r = none → H f = none → LkS a H' x l r f n (s0 n) → Kp [] H H' → Q x H') :
    ∀ x dx, H x = none → H dx = none → dx ≠ x → sp_Links___init__ a (.ref x :: [.int n]) (upd (upd H dx (.own x)) x (.ins a.Links dx [])) (fun v H2 => v = .non ∧ Q x H2) E := by
  intro x dx hx hdx hne
  have kx : Kp [] H (upd (upd H dx (.own x)) x (.ins a.Links dx [])) := (Kp.refl.new hdx).own hx
  have fr : ∀ p, upd (upd H dx (.own x)) x (.ins a.Links dx []) p = none → H p = none := fun p h => kx.free h
  refine ⟨x, dx, n, rfl, upd_same, fun z d H' h1 h2 h3 => hb z d H' (fr d h1) h2 (kx.trans h3), fun n0 n1 l r f H1 hl hr hf hL k1 => ⟨rfl, ?_⟩⟩
  rw [rgI_l0, rgI_r0 n0] at hL
  have k0 : Kp [] H H1 := fun b o e _ => k1 b o (kx.at0 e) (by simp; intro z; subst z; rw [hx] at e; cases e)
  exact k n0 n1 x l r f H1 hx (fr l hl) (fr r hr) (fr f hf) hL k0
/-- one more operation of a log, on the object -/
theorem ap_step {a : AD} {H : Hp} {Q : VK} {E : XK} {x l r f : Addr} {n : Int} {s t : List Int × List Int × List Bool} {log : List Int} {i : Nat} {o : Int} (W : WFs n t) (hu : log[i]? = some o) (hok : okTo n t log i) (e : s = runS t (log.take i)) (hil : i ≤ log.length) (h : LkS a H x l r f n s)
    (hb : ¬IsOp n o → xBadOperation a (.int o) (.int (i : Int)) E H) (hi : IsOp n o → s.2.2.getD o.natAbs default = decide (o < 0) → xIllegal a (.int o) (.int (i : Int)) E H)
    (k : OkAt n s o → WFs n s → okTo n t log (i + 1) → ∀ H', LkS a H' x l r f n (stS s o) → Kp [l, r, f] H H' → Q .non H') : sp_Links_apply_at a [.ref x, .int o, .int (i : Int)] H Q E := by
  have Wi : WFs n s := e ▸ runS_wf W i hil hok
  have n0 := WF.n0 Wi
  have hR := WF.hR Wi
  have hL := WF.hL Wi
  refine ⟨x, l, r, f, n, o, i, _, _, _, rfl, h, hL, by rw [List.length_append, hR]; simp; omega, WF.hF Wi, hb, hi, fun hop hfl => ?_⟩
  have ho1 := hop.1
  have ho2 := hop.2
  have qa := WF.at Wi (v := o.natAbs) (by omega) ho2
  have eR : (s.1 ++ [n + 2]).getD o.natAbs default = s.1.getD o.natAbs default := by
    rw [List.getD_eq_getElem?_getD, List.getD_eq_getElem?_getD, List.getElem?_append_left (by omega)]
  refine ⟨by omega, by omega, by omega, by omega, fun H2 hY k2 => ?_⟩
  have ea := ap_app Wi (x := n + 2) hop
  rw [ea.1, ea.2] at hY
  refine k ⟨hop, hfl⟩ Wi (fun j p hj hp => ?_) H2 hY k2
  by_cases z : j < i
  · exact hok j p z hp
  · obtain rfl : j = i := by omega
    rw [hu] at hp
    cases hp
    rw [← e]
    exact ⟨hop, hfl⟩
/-- changes of a new object are none to the rest -/
theorem kp_new3 {H H1 H2 : Hp} {l r f : Addr} (k1 : Kp [] H H1) (hl : H l = none) (hr : H r = none) (hf : H f = none) (k2 : Kp [l, r, f] H1 H2) : Kp [] H H2 := fun b o e _ => k2 b o (k1.at0 e) (by
  intro z
  simp only [List.mem_cons, List.mem_nil_iff, or_false] at z
  rcases z with rfl | rfl | rfl
  · rw [hl] at e; cases e
  · rw [hr] at e; cases e
  · rw [hf] at e; cases e)

/-! ### logs -/
def sp__is_legal (a : AD) : Sp := fun vs H Q _ => ∃ (p : Addr) (fs : List Bool) (o : Int), vs = [.ref p, .int o] ∧ H p = some (.lst (fs.map V.bl)) ∧ o.natAbs < fs.length ∧ Q (.bl (!decide (fs.getD o.natAbs default = decide (o < 0)))) H
theorem sc__is_legal : FnScope ["flags", "operation", "is_unlink"] ["flags", "operation"] (defScope s__is_legal) := ⟨rfl, rfl, rfl, by decide +kernel, rfl, by decide +kernel, by decide +kernel⟩
theorem ok__is_legal {P : Program} {w : World} {K : PySem.W.Frag} {mg : Str → Option Value} {base : Heap} {a : AD} (T : Txt P K mg a) : FnA P w K mg base 2 a.f__is_legal ["flags", "operation"] (sp__is_legal a) := by
  obtain ⟨fd, F, b⟩ := T.F__is_legal
  refine FnA.of F sc__is_legal b (fun vs H Q E h => by first | (obtain ⟨rfl, _⟩ := h; rfl) | (obtain ⟨_, rfl, _⟩ := h; rfl) | (obtain ⟨_, _, rfl, _⟩ := h; rfl) | (obtain ⟨_, _, _, rfl, _⟩ := h; rfl) | (obtain ⟨_, _, _, _, rfl, _⟩ := h; rfl) | (obtain ⟨_, _, _, _, _, rfl, _⟩ := h; rfl) | (obtain ⟨_, _, _, _, _, _, rfl, _⟩ := h; rfl) | (obtain ⟨_, _, _, _, _, _, _, rfl, _⟩ := h; rfl) | (obtain ⟨_, _, _, _, _, _, _, _, rfl, _⟩ := h; rfl) | (obtain ⟨_, _, _, _, _, _, _, _, _, rfl, _⟩ := h; rfl) | (obtain ⟨_, _, _, _, _, _, _, _, _, _, rfl, _⟩ := h; rfl) | (obtain ⟨_, _, _, _, _, _, _, _, _, _, _, rfl, _⟩ := h; rfl) | (obtain ⟨_, _, _, _, _, _, _, _, _, _, _, _, rfl, _⟩ := h; rfl) | (obtain ⟨_, _, _, _, _, _, _, _, _, _, _, _, _, rfl, _⟩ := h; rfl) | (obtain ⟨_, _, _, _, _, _, _, _, _, _, _, _, _, _, rfl, _⟩ := h; rfl) | (obtain ⟨_, _, _, _, _, _, _, _, _, _, _, _, _, _, _, rfl, _⟩ := h; rfl) | (obtain ⟨_, _, _, _, _, _, _, _, _, _, _, _, _, _, _, _, rfl, _⟩ := h; rfl) | (obtain ⟨_, _, _, _, _, _, _, _, _, _, _, _, _, _, _, _, _, rfl, _⟩ := h; rfl) | (obtain ⟨_, _, _, _, _, _, _, _, _, _, _, _, _, _, _, _, _, _, rfl, _⟩ := h; rfl) | (obtain ⟨_, _, _, _, _, _, _, _, _, _, _, _, _, _, _, _, _, _, _, rfl, _⟩ := h; rfl) | (obtain ⟨_, _, _, _, _, _, _, _, _, _, _, _, _, _, _, _, _, _, _, _, rfl, _⟩ := h; rfl) | (obtain ⟨_, _, _, _, _, _, _, _, _, _, _, _, _, _, _, _, _, _, _, _, _, rfl, _⟩ := h; rfl) | (obtain ⟨_, _, _, _, _, _, _, _, _, _, _, _, _, _, _, _, _, _, _, _, _, _, rfl, _⟩ := h; rfl) | (obtain ⟨_, _, _, _, _, _, _, _, _, _, _, _, _, _, _, _, _, _, _, _, _, _, _, rfl, _⟩ := h; rfl)) (fun cdv A outer s H vs Q E hr tk pz h => ?_)
  have hu := hr.units
  have hrH := L2H.roomH_of hr
  obtain ⟨p, fs, o, rfl, hp, hl, k⟩ := h
  refine ⟨_, (pss_cons (ps_set (i := 2) sc__is_legal.nd rfl (Or.inl rfl) (pe_cmpR op_lt (pv 1) pe_int (nomark _)))
      (pss_one (ps_ret (pe_cmpR (o_ne hu) (pe_ix ix_seq (pv 0) (pe_callB (b_abs) rfl T.b_abs (by decide +kernel) (pa_cons (pv 1) pa_nil)) (fun _ _ => rfl)) (pv 2) (nomark _))))), ?_⟩
  show (_ : Ends → L2.St → Hp → Prop) _ [some _, some _, none] _
  try dsimp only [L2H.cxH, cxOf]
  walk_at "w"
  exact k
theorem getD_take {α : Type} [Inhabited α] {us : List α} {i k : Nat} (h : i < k) : (us.take k).getD i default = us.getD i default := by
  rw [List.getD_eq_getElem?_getD, List.getD_eq_getElem?_getD, List.getElem?_take_of_lt h]
def logSp (a : AD) (n : Int) (log : List Int) (H : Hp) (E : XK) (k : Prop) : Prop := (¬(0 ≤ n ∧ n ≤ 60) → xBadSize a (.int n) E H) ∧ (0 ≤ n → n ≤ 60 → playSp a n (s0 n) log H E k)
def sp_check_log (a : AD) : Sp := fun vs H Q E => ∃ (n : Int) (p : Addr) (log : List Int), vs = [.int n, .ref p] ∧ H p = some (.lst (log.map V.int)) ∧ log.length ≤ 100000 ∧ logSp a n log H E (∀ H', Kp [] H H' → Q .non H')
theorem sc_check_log : FnScope ["size", "log", "flags", "index", "operation"] ["size", "log"] (defScope s_check_log) := ⟨rfl, rfl, rfl, by decide +kernel, rfl, by decide +kernel, by decide +kernel⟩
theorem ok_check_log {P : Program} {w : World} {K : PySem.W.Frag} {mg : Str → Option Value} {base : Heap} {a : AD} (T : Txt P K mg a) (G_check_size : FnA P w K mg base 2 a.f_check_size ["size"] (sp_check_size a)) (G_check_operation : FnA P w K mg base 2 a.f_check_operation ["size", "operation", "index"] (sp_check_operation a)) (G__is_legal : FnA P w K mg base 2 a.f__is_legal ["flags", "operation"] (sp__is_legal a)) : FnA P w K mg base 3 a.f_check_log ["size", "log"] (sp_check_log a) := by
  obtain ⟨fd, F, b⟩ := T.F_check_log
  refine FnA.of F sc_check_log b (fun vs H Q E h => by first | (obtain ⟨rfl, _⟩ := h; rfl) | (obtain ⟨_, rfl, _⟩ := h; rfl) | (obtain ⟨_, _, rfl, _⟩ := h; rfl) | (obtain ⟨_, _, _, rfl, _⟩ := h; rfl) | (obtain ⟨_, _, _, _, rfl, _⟩ := h; rfl) | (obtain ⟨_, _, _, _, _, rfl, _⟩ := h; rfl) | (obtain ⟨_, _, _, _, _, _, rfl, _⟩ := h; rfl) | (obtain ⟨_, _, _, _, _, _, _, rfl, _⟩ := h; rfl) | (obtain ⟨_, _, _, _, _, _, _, _, rfl, _⟩ := h; rfl) | (obtain ⟨_, _, _, _, _, _, _, _, _, rfl, _⟩ := h; rfl) | (obtain ⟨_, _, _, _, _, _, _, _, _, _, rfl, _⟩ := h; rfl) | (obtain ⟨_, _, _, _, _, _, _, _, _, _, _, rfl, _⟩ := h; rfl) | (obtain ⟨_, _, _, _, _, _, _, _, _, _, _, _, rfl, _⟩ := h; rfl) | (obtain ⟨_, _, _, _, _, _, _, _, _, _, _, _, _, rfl, _⟩ := h; rfl) | (obtain ⟨_, _, _, _, _, _, _, _, _, _, _, _, _, _, rfl, _⟩ := h; rfl) | (obtain ⟨_, _, _, _, _, _, _, _, _, _, _, _, _, _, _, rfl, _⟩ := h; rfl) | (obtain ⟨_, _, _, _, _, _, _, _, _, _, _, _, _, _, _, _, rfl, _⟩ := h; rfl) | (obtain ⟨_, _, _, _, _, _, _, _, _, _, _, _, _, _, _, _, _, rfl, _⟩ := h; rfl) | (obtain ⟨_, _, _, _, _, _, _, _, _, _, _, _, _, _, _, _, _, _, rfl, _⟩ := h; rfl) | (obtain ⟨_, _, _, _, _, _, _, _, _, _, _, _, _, _, _, _, _, _, _, rfl, _⟩ := h; rfl) | (obtain ⟨_, _, _, _, _, _, _, _, _, _, _, _, _, _, _, _, _, _, _, _, rfl, _⟩ := h; rfl) | (obtain ⟨_, _, _, _, _, _, _, _, _, _, _, _, _, _, _, _, _, _, _, _, _, rfl, _⟩ := h; rfl) | (obtain ⟨_, _, _, _, _, _, _, _, _, _, _, _, _, _, _, _, _, _, _, _, _, _, rfl, _⟩ := h; rfl) | (obtain ⟨_, _, _, _, _, _, _, _, _, _, _, _, _, _, _, _, _, _, _, _, _, _, _, rfl, _⟩ := h; rfl)) (fun cdv A outer s H vs Q E hr tk pz h => ?_)
  have hu := hr.units
  have hrH := L2H.roomH_of hr
  obtain ⟨n, p, log, rfl, hp, hlen, hs, h⟩ := h
  refine ⟨_, (pss_cons (ps_expr (pe_callA G_check_size (Room.mono hr (by decide)) T.n_check_size tk (pa_cons (pv 0) pa_nil)))
      (pss_cons (ps_set (i := 2) sc_check_log.nd rfl (Or.inl rfl) (pe_op o_mul (pe_lst (pa_cons pe_bl pa_nil)) (pe_op o_add (pv 0) pe_int)))
      (pss_one (ps_for pz rfl (pi_enum rfl T.b_enumerate (pa_cons (pv 1) pa_nil)) (pg_tup (n := 2) rfl (pgs_cons (pg_name (i := 3) sc_check_log.nd rfl (Or.inl rfl)) (pgs_cons (pg_name (i := 4) sc_check_log.nd rfl (Or.inl rfl)) pgs_nil)))
      (pss_cons (ps_expr (pe_callA G_check_operation (Room.mono hr (by decide)) T.n_check_operation tk (pa_cons (pv 0) (pa_cons (pv 4) (pa_cons (pv 3) pa_nil)))))
      (pss_cons (ps_if (pt_not (pt_tru (pe_callA G__is_legal (Room.mono hr (by decide)) T.n__is_legal tk (pa_cons (pv 2) (pa_cons (pv 4) pa_nil))))) (pss_one (L2N.ps_raise rfl tk (Lk.pmk_own T.x_Illegal (List.cons_ne_nil _ _) hr T.c_Illegal (by exact (pa_cons (pv 4) (pa_cons (pv 3) pa_nil))) rfl))) pss_nil)
      (pss_one (ps_asg (pe_cmpR op_lt (pv 4) pe_int (nomark _)) (pg_sub (pv 2) (pe_callB (b_abs) rfl T.b_abs (by decide +kernel) (pa_cons (pv 4) pa_nil)) set_list))))))))), ?_⟩
  show (_ : Ends → L2.St → Hp → Prop) _ [some _, some _, none, none, none] _
  try dsimp only [L2H.cxH, cxOf]
  walk_at "w"
  refine ⟨n, rfl, hs, fun n0 n1 => ?_⟩
  obtain ⟨hb, hi, k⟩ := h n0 n1
  walk_at "w"
  intro q0 hq0
  walk_at "w"
  intro q hq
  have kq := (Kp.refl.new (ms := []) (o := .lst [.bl false]) hq0).new (o := .lst ((List.replicate (n + 1).toNat false).map V.bl)) hq
  have hqq : upd (upd H q0 (.lst [.bl false])) q (.lst ((List.replicate (n + 1).toNat false).map V.bl)) q = some (.lst (((runS (s0 n) (log.take 0)).2.2.take (n + 1).toNat).map V.bl)) := by
    rw [upd_same, List.take_zero]
    show some (HO.lst ((List.replicate (n + 1).toNat false).map V.bl)) = some (HO.lst (((List.replicate (n + 2).toNat false).take (n + 1).toNat).map V.bl))
    rw [List.take_replicate, Nat.min_eq_left (by omega)]
  have hqn : H q = none := upd_nil hq
  generalize upd (upd H q0 (.lst [.bl false])) q (.lst ((List.replicate (n + 1).toNat false).map V.bl)) = H1 at kq hqq ⊢
  walk_at "w"
  refine w_enumM (us := log) (f := V.int) (p := p) (kq.at0 hp) (fun i σ' H' => (∃ z1 z2, σ' = [some (.int n), some (.ref p), some (.ref q), z1, z2]) ∧ Kp [] H H' ∧ okTo n (s0 n) log i ∧ H' q = some (.lst (((runS (s0 n) (log.take i)).2.2.take (n + 1).toNat).map V.bl))) ⟨⟨_, _, rfl⟩, kq, fun j o hj => by omega, hqq⟩ (fun i σ' H' _ h => h.2.1.at0 hp) ?_ ?_
  · rintro i u T σ' H' hu ⟨⟨z1, z2, rfl⟩, hk, hok, hq2⟩ hT
    have hil : i < log.length := (List.getElem?_eq_some_iff.mp hu).1
    have Wi := runS_wf (wfs0 n0 n1) i (by omega) hok
    have hF := WF.hF Wi
    have hkT := hk.new (o := .tup [.int (i : Int), .int u]) hT
    have hqT : upd H' T (.tup [.int (i : Int), .int u]) q = some (.lst (((runS (s0 n) (log.take i)).2.2.take (n + 1).toNat).map V.bl)) := upd_new hT hq2
    generalize upd H' T (.tup [.int (i : Int), .int u]) = H2 at hkT hqT ⊢
    walk_at "w"
    refine ⟨n, u, i, rfl, fun z d H3 hd hd3 k3 => hb i u hu hok z d H3 (hkT.free hd) hd3 (hkT.trans k3), fun hop => ?_⟩
    have ho1 := hop.1
    have ho2 := hop.2
    walk_at "w"
    refine ⟨q, _, u, rfl, hqT, by rw [List.length_take]; omega, ?_⟩
    rw [getD_take (by omega)]
    by_cases c : (runS (s0 n) (log.take i)).2.2.getD u.natAbs default = decide (u < 0)
    · rw [show decide ((runS (s0 n) (log.take i)).2.2.getD u.natAbs default = decide (u < 0)) = true by simpa using c]
      walk_at "w"
      refine ⟨rfl, fun d hd => hi i u hu hok hop c d _ (hkT.free hd) upd_same (hkT.new hd)⟩
    · rw [show decide ((runS (s0 n) (log.take i)).2.2.getD u.natAbs default = decide (u < 0)) = false by simpa using c]
      have hln : ((runS (s0 n) (log.take i)).2.2.take (n + 1).toNat).length = (n + 1).toNat := by rw [List.length_take]; omega
      walk_at "w"
      refine ⟨⟨_, _, rfl⟩, hkT.own hqn, fun j o hj ho => ?_, ?_⟩
      · by_cases z : j < i
        · exact hok j o z ho
        · obtain rfl : j = i := by omega
          rw [hu] at ho
          cases ho
          exact ⟨hop, c⟩
      · rw [take_snoc hu, runS_snoc]
        show _ = some (HO.lst (((apF (runS (s0 n) (log.take i)).2.2 u).take (n + 1).toNat).map V.bl))
        unfold apF
        rw [List.take_set]
        exact upd_same
  · rintro σ' H' ⟨⟨z1, z2, rfl⟩, hk, hok, hq2⟩
    walk_at "w"
    exact k hok _ hk
/-! ### the moments -/
def mom (s : List Int × List Int × List Bool) (o : Int) : List V := [.int (o.natAbs : Int), .int (s.2.1.getD o.natAbs default), .int (s.1.getD o.natAbs default)]
def momF (t : List Int × List Int × List Bool) (log : List Int) (k : Nat) : List (List V) := (List.range k).map fun i => mom (runS t (log.take i)) (log.getD i default)
theorem momF_succ (t : List Int × List Int × List Bool) (log : List Int) (k : Nat) : momF t log (k + 1) = momF t log k ++ [mom (runS t (log.take k)) (log.getD k default)] := by
  unfold momF
  rw [List.range_succ, List.map_append]; rfl
theorem st_L {n : Int} {s : List Int × List Int × List Bool} (W : WFs n s) {o : Int} (h : IsOp n o) : (stS s o).2.1.getD o.natAbs default = s.2.1.getD o.natAbs default := by
  have h1 := h.1
  have h2 := h.2
  have q := WF.at W (v := o.natAbs) (by omega) h2
  show (apL s.2.1 s.1 o).getD o.natAbs default = _
  unfold apL
  rw [getD_set_ne (by omega)]
theorem st_R {n : Int} {s : List Int × List Int × List Bool} (W : WFs n s) {o : Int} (h : IsOp n o) : (stS s o).1.getD o.natAbs default = s.1.getD o.natAbs default := by
  have h1 := h.1
  have h2 := h.2
  have q := WF.at W (v := o.natAbs) (by omega) h2
  show (apR s.2.1 s.1 o).getD o.natAbs default = _
  unfold apR
  rw [getD_set_ne (by omega)]
def sp_moments (a : AD) : Sp := fun vs H Q E => ∃ (n : Int) (p : Addr) (log : List Int), vs = [.int n, .ref p] ∧ H p = some (.lst (log.map V.int)) ∧ log.length ≤ 100000 ∧ logSp a n log H E (∀ q xs H', H q = none → Kp [] H H' → H' q = some (.lst xs) → Tps H' xs (momF (s0 n) log log.length) → Q (.ref q) H')
theorem sc_moments : FnScope ["size", "log", "links", "triples", "index", "operation", "node"] ["size", "log"] (defScope s_moments) := ⟨rfl, rfl, rfl, by decide +kernel, rfl, by decide +kernel, by decide +kernel⟩
theorem ok_moments {P : Program} {w : World} {K : PySem.W.Frag} {mg : Str → Option Value} {base : Heap} {a : AD} (T : Txt P K mg a) (G_Links___init__ : FnA P w K mg base 3 a.f_Links___init__ ["self", "size"] (sp_Links___init__ a)) (G_Links_apply_at : FnA P w K mg base 3 a.f_Links_apply_at ["self", "operation", "index"] (sp_Links_apply_at a)) (G_Links_left : FnA P w K mg base 2 a.f_Links_left ["self", "node"] (sp_Links_left a)) (G_Links_right : FnA P w K mg base 2 a.f_Links_right ["self", "node"] (sp_Links_right a)) : FnA P w K mg base 5 a.f_moments ["size", "log"] (sp_moments a) := by
  obtain ⟨fd, F, b⟩ := T.F_moments
  refine FnA.of F sc_moments b (fun vs H Q E h => by first | (obtain ⟨rfl, _⟩ := h; rfl) | (obtain ⟨_, rfl, _⟩ := h; rfl) | (obtain ⟨_, _, rfl, _⟩ := h; rfl) | (obtain ⟨_, _, _, rfl, _⟩ := h; rfl) | (obtain ⟨_, _, _, _, rfl, _⟩ := h; rfl) | (obtain ⟨_, _, _, _, _, rfl, _⟩ := h; rfl) | (obtain ⟨_, _, _, _, _, _, rfl, _⟩ := h; rfl) | (obtain ⟨_, _, _, _, _, _, _, rfl, _⟩ := h; rfl) | (obtain ⟨_, _, _, _, _, _, _, _, rfl, _⟩ := h; rfl) | (obtain ⟨_, _, _, _, _, _, _, _, _, rfl, _⟩ := h; rfl) | (obtain ⟨_, _, _, _, _, _, _, _, _, _, rfl, _⟩ := h; rfl) | (obtain ⟨_, _, _, _, _, _, _, _, _, _, _, rfl, _⟩ := h; rfl) | (obtain ⟨_, _, _, _, _, _, _, _, _, _, _, _, rfl, _⟩ := h; rfl) | (obtain ⟨_, _, _, _, _, _, _, _, _, _, _, _, _, rfl, _⟩ := h; rfl) | (obtain ⟨_, _, _, _, _, _, _, _, _, _, _, _, _, _, rfl, _⟩ := h; rfl) | (obtain ⟨_, _, _, _, _, _, _, _, _, _, _, _, _, _, _, rfl, _⟩ := h; rfl) | (obtain ⟨_, _, _, _, _, _, _, _, _, _, _, _, _, _, _, _, rfl, _⟩ := h; rfl) | (obtain ⟨_, _, _, _, _, _, _, _, _, _, _, _, _, _, _, _, _, rfl, _⟩ := h; rfl) | (obtain ⟨_, _, _, _, _, _, _, _, _, _, _, _, _, _, _, _, _, _, rfl, _⟩ := h; rfl) | (obtain ⟨_, _, _, _, _, _, _, _, _, _, _, _, _, _, _, _, _, _, _, rfl, _⟩ := h; rfl) | (obtain ⟨_, _, _, _, _, _, _, _, _, _, _, _, _, _, _, _, _, _, _, _, rfl, _⟩ := h; rfl) | (obtain ⟨_, _, _, _, _, _, _, _, _, _, _, _, _, _, _, _, _, _, _, _, _, rfl, _⟩ := h; rfl) | (obtain ⟨_, _, _, _, _, _, _, _, _, _, _, _, _, _, _, _, _, _, _, _, _, _, rfl, _⟩ := h; rfl) | (obtain ⟨_, _, _, _, _, _, _, _, _, _, _, _, _, _, _, _, _, _, _, _, _, _, _, rfl, _⟩ := h; rfl)) (fun cdv A outer s H vs Q E hr tk pz h => ?_)
  have hu := hr.units
  have hrH := L2H.roomH_of hr
  obtain ⟨n, p, log, rfl, hp, hlen, hs, h⟩ := h
  refine ⟨_, (pss_cons (ps_set (i := 2) sc_moments.nd rfl (Or.inl rfl) (pe_makeS G_Links___init__ T.mk_Links (Room.mono hr (by decide)) T.c_Links tk (pa_cons (pv 0) pa_nil)))
      (pss_cons (ps_set (i := 3) sc_moments.nd rfl (Or.inl rfl) (pe_lst pa_nil))
      (pss_cons (ps_for pz rfl (pi_enum rfl T.b_enumerate (pa_cons (pv 1) pa_nil)) (pg_tup (n := 2) rfl (pgs_cons (pg_name (i := 4) sc_moments.nd rfl (Or.inl rfl)) (pgs_cons (pg_name (i := 5) sc_moments.nd rfl (Or.inl rfl)) pgs_nil)))
      (pss_cons (ps_expr (pe_methS (pl := _) G_Links_apply_at (Room.mono hr (by decide)) T.cl_Links T.me_Links_apply_at tk (pv 2) (pa_cons (pv 5) (pa_cons (pv 4) pa_nil))))
      (pss_cons (ps_set (i := 6) sc_moments.nd rfl (Or.inl rfl) (pe_callB (b_abs) rfl T.b_abs (by decide +kernel) (pa_cons (pv 5) pa_nil)))
      (pss_one (ps_expr (pe_bm PySem.F.plainAttrs_list PySem.F.slot_list_append PySem.F.type_list_append mt_append (pv 3) (pa_cons (pe_tup (pa_cons (pv 6) (pa_cons (pe_methS (pl := _) G_Links_left (Room.mono hr (by decide)) T.cl_Links T.me_Links_left tk (pv 2) (pa_cons (pv 6) pa_nil)) (pa_cons (pe_methS (pl := _) G_Links_right (Room.mono hr (by decide)) T.cl_Links T.me_Links_right tk (pv 2) (pa_cons (pv 6) pa_nil)) pa_nil)))) pa_nil)))))))
      (pss_one (ps_ret (pv 3)))))), ?_⟩
  show (_ : Ends → L2.St → Hp → Prop) _ [some _, some _, none, none, none, none, none] _
  try dsimp only [L2H.cxH, cxOf]
  walk_at "w"
  refine mk_new hs fun n0 n1 x l r f H1 hx hl hr hf hL k1 => ?_
  obtain ⟨hb, hi, k⟩ := h n0 n1
  walk_at "w"
  intro q hq
  have kq := k1.new (o := .lst []) hq
  have hLq := hL.kp0 (Kp.refl.new (o := .lst []) hq)
  have hqq : upd H1 q (.lst []) q = some (.lst []) := upd_same
  have hqH := k1.free hq
  have sq4 : q ∉ [x, l, r, f] := nm_of hq hL.live
  have sq : q ∉ [l, r, f] := nm_sub sq4 (by simp)
  generalize upd H1 q (.lst []) = H2 at kq hLq hqq ⊢
  walk_at "w"
  refine w_enumM (us := log) (f := V.int) (p := p) (kq.at0 hp) (fun i σ' H' => (∃ z1 z2 z3, σ' = [some (.int n), some (.ref p), some (.ref x), some (.ref q), z1, z2, z3]) ∧ Kp [] H H' ∧ okTo n (s0 n) log i ∧ LkS a H' x l r f n (runS (s0 n) (log.take i)) ∧ ∃ xs, H' q = some (.lst xs) ∧ Tps H' xs (momF (s0 n) log i)) ⟨⟨_, _, _, rfl⟩, kq, fun j o hj => by omega, hLq, [], hqq, .nil⟩ (fun i σ' H' _ h => h.2.1.at0 hp) ?_ ?_
  · rintro i u T σ' H' hu ⟨⟨z1, z2, z3, rfl⟩, hk, hok, hL2, xs, hq2, hT2⟩ hT
    have hil : i < log.length := (List.getElem?_eq_some_iff.mp hu).1
    have hgu : log.getD i default = u := by rw [List.getD_eq_getElem?_getD, hu]; rfl
    have hkT := hk.new (o := .tup [.int (i : Int), .int u]) hT
    have hLT := hL2.kp0 (Kp.refl.new (o := .tup [.int (i : Int), .int u]) hT)
    have hqT : upd H' T (.tup [.int (i : Int), .int u]) q = some (.lst xs) := upd_new hT hq2
    have hTT := hT2.new (o := .tup [.int (i : Int), .int u]) hT
    have hxl := hT2.len
    generalize upd H' T (.tup [.int (i : Int), .int u]) = H3 at hkT hqT hLT hTT ⊢
    have hx3 := hLT.1.choose_spec
    walk_at "w"
    refine ap_step (wfs0 n0 n1) hu hok rfl (by omega) hLT (fun z d H2 hd hd2 k2 => hb i u hu hok z d H2 (hkT.free hd) hd2 (hkT.trans k2)) (fun z1 z2 d H2 hd hd2 k2 => hi i u hu hok z1 z2 d H2 (hkT.free hd) hd2 (hkT.trans k2)) (fun hO Wi hok' H4 hL4 k4 => ?_)
    have k04 := kp_new3 hkT hl hr hf k4
    have hq4 := k4 q _ hqT sq
    have hT4 : Tps H4 xs (momF (s0 n) log i) := hTT.kpm k4 (by
      intro m hm
      simp only [List.mem_cons, List.mem_nil_iff, or_false] at hm
      rcases hm with rfl | rfl | rfl
      · exact ⟨_, hLT.2.1⟩
      · exact ⟨_, hLT.2.2.1⟩
      · exact ⟨_, hLT.2.2.2.1⟩)
    have W4 : WFs n (stS (runS (s0 n) (log.take i)) u) := WF.ap Wi hO.1
    have hR4 := WF.hR W4
    have hx4 := hL4.1.choose_spec
    have ho1 := hO.1.1
    have ho2 := hO.1.2
    have eL := st_L Wi hO.1
    have eR := st_R Wi hO.1
    walk_at "w"
    refine ⟨x, l, r, f, n, u.natAbs, _, _, _, rfl, hL4, WF.hL W4, fun z => absurd ⟨by omega, by omega⟩ z, fun _ _ => ?_⟩
    rw [Int.toNat_natCast, eL]
    walk_at "w"
    refine ⟨x, l, r, f, n, u.natAbs, _, _, _, rfl, hL4, by rw [List.length_append, hR4]; simp; omega, fun z => absurd ⟨by omega, by omega⟩ z, fun _ _ => ?_⟩
    rw [Int.toNat_natCast, gd_app (by omega), eR]
    have hll : xs.length ≤ 100000 := by
      rw [hxl]
      unfold momF
      simp; omega
    walk_at "w"
    intro T2 hT2n
    walk_at "w"
    refine ⟨⟨_, _, _, rfl⟩, (k04.new hT2n).own hqH, hok', ?_, _, upd_same, ?_⟩
    · rw [take_snoc hu, runS_snoc]
      have kT := Kp.refl.new (ms := []) (o := .tup [.int (u.natAbs : Int), .int ((runS (s0 n) (log.take i)).2.1.getD u.natAbs default), .int ((runS (s0 n) (log.take i)).1.getD u.natAbs default)]) hT2n
      exact Lnk.kpS (hL4.kp0 kT) (Kp.refl.mut (ms := [q]) (by simp)) (nm_swap sq4)
    · rw [momF_succ, hgu]
      exact tps_app hq4 hT4 hT2n
  · rintro σ' H' ⟨⟨z1, z2, z3, rfl⟩, hk, hok, hL2, xs, hq2, hT2⟩
    walk_at "w"
    exact k hok q xs H' hqH hk hq2 hT2

/-- no fault in a legal log -/
theorem play_ok {a : AD} {n : Int} {log : List Int} {H : Hp} {E : XK} {k : Prop} (hok : okTo n (s0 n) log log.length) (h : k) : playSp a n (s0 n) log H E k :=
  ⟨fun i o ho _ z => absurd (hok i o (List.getElem?_eq_some_iff.mp ho).1 ho).1 z, fun i o ho _ _ z => absurd z (hok i o (List.getElem?_eq_some_iff.mp ho).1 ho).2, fun _ => h⟩
theorem log_ok {a : AD} {n : Int} {log : List Int} {H : Hp} {E : XK} {k : Prop} (n0 : 0 ≤ n) (n1 : n ≤ 60) (hok : okTo n (s0 n) log log.length) (h : k) : logSp a n log H E k :=
  ⟨fun z => absurd ⟨n0, n1⟩ z, fun _ _ => play_ok hok h⟩

/-! ### who wrote a link last -/
def wrR (t : List Int × List Int × List Bool) (log : List Int) (n : Int) : Nat → List Int
  | 0 => List.replicate (n + 1).toNat (-1)
  | i + 1 => (wrR t log n i).set ((runS t (log.take i)).2.1.getD (log.getD i default).natAbs default).toNat (i : Int)
def wrL (t : List Int × List Int × List Bool) (log : List Int) (n : Int) : Nat → List Int
  | 0 => List.replicate (n + 1).toNat (-1)
  | i + 1 => (wrL t log n i).set ((runS t (log.take i)).1.getD (log.getD i default).natAbs default - 1).toNat (i : Int)
theorem wrR_len (t : List Int × List Int × List Bool) (log : List Int) (n : Int) : ∀ i, (wrR t log n i).length = (n + 1).toNat
  | 0 => by simp [wrR]
  | i + 1 => by rw [wrR, List.length_set, wrR_len t log n i]
theorem wrL_len (t : List Int × List Int × List Bool) (log : List Int) (n : Int) : ∀ i, (wrL t log n i).length = (n + 1).toNat
  | 0 => by simp [wrL]
  | i + 1 => by rw [wrL, List.length_set, wrL_len t log n i]
/-- the state of a gap behind the first i operations -/
def stAt (t : List Int × List Int × List Bool) (log : List Int) (i : Nat) (g : Int) : Str := stateOf (runS t (log.take i)).1 (runS t (log.take i)).2.1 g
def decF (t : List Int × List Int × List Bool) (log : List Int) (g : Int) : Nat → Int
  | 0 => -1
  | i + 1 => if stAt t log (i + 1) g = stAt t log i g then decF t log g i else (i : Int)
/-- the two gaps of the operation at i -/
def loAt (t : List Int × List Int × List Bool) (log : List Int) (i : Nat) : Int := (runS t (log.take i)).2.1.getD (log.getD i default).natAbs default
def hiAt (t : List Int × List Int × List Bool) (log : List Int) (i : Nat) : Int := (runS t (log.take i)).1.getD (log.getD i default).natAbs default - 1
def lossF (t : List Int × List Int × List Bool) (log : List Int) : Nat → Option (Nat × Int)
  | 0 => none
  | i + 1 => match lossF t log i with
    | some p => some p
    | none => if stAt t log (i + 1) (loAt t log i) = ("lost" : Str) then some (i, loAt t log i) else if stAt t log (i + 1) (hiAt t log i) = ("lost" : Str) then some (i, hiAt t log i) else none
theorem momF_get {t : List Int × List Int × List Bool} {log : List Int} {k i : Nat} (h : i < k) : (momF t log k)[i]? = some (mom (runS t (log.take i)) (log.getD i default)) := by
  unfold momF
  rw [List.getElem?_map, List.getElem?_range h]; rfl
theorem momF_len (t : List Int × List Int × List Bool) (log : List Int) (k : Nat) : (momF t log k).length = k := by simp [momF]
theorem gD_some {α : Type} [Inhabited α] {us : List α} {i : Nat} {u : α} (h : us[i]? = some u) : us.getD i default = u := by rw [List.getD_eq_getElem?_getD, h]; rfl
/-- the links of an operation that is due -/
theorem ok_at {n : Int} {t : List Int × List Int × List Bool} {log : List Int} (W : WFs n t) (hok : okTo n t log log.length) {i : Nat} {u : Int} (hu : log[i]? = some u) : OkAt n (runS t (log.take i)) u ∧ WFs n (runS t (log.take i)) ∧ 1 ≤ u.natAbs ∧ (u.natAbs : Int) ≤ n ∧ 0 ≤ loAt t log i ∧ loAt t log i < (u.natAbs : Int) ∧ (u.natAbs : Int) ≤ hiAt t log i ∧ hiAt t log i ≤ n := by
  have hil : i < log.length := (List.getElem?_eq_some_iff.mp hu).1
  have h := hok i u hil hu
  have Wi := runS_wf W i (by omega) (fun j o hj ho => hok j o (by omega) ho)
  have h1 := h.1.1
  have h2 := h.1.2
  have q := WF.at Wi (v := u.natAbs) (by omega) h2
  unfold loAt hiAt
  rw [gD_some hu]
  exact ⟨h, Wi, by omega, h2, q.1, q.2.1, by omega, by omega⟩
def sp_writers (a : AD) : Sp := fun vs H Q E => ∃ (n : Int) (p : Addr) (log : List Int), vs = [.int n, .ref p] ∧ H p = some (.lst (log.map V.int)) ∧ log.length ≤ 100000 ∧ logSp a n log H E (∀ q r l H', H q = none → H r = none → H l = none → r ≠ l → Kp [] H H' → H' q = some (.tup [.ref r, .ref l]) → H' r = some (.lst ((wrR (s0 n) log n log.length).map V.int)) → H' l = some (.lst ((wrL (s0 n) log n log.length).map V.int)) → Q (.ref q) H')
theorem sc_writers : FnScope ["size", "log", "triples", "right_writes", "left_writes", "index", "_", "left", "right"] ["size", "log"] (defScope s_writers) := ⟨rfl, rfl, rfl, by decide +kernel, rfl, by decide +kernel, by decide +kernel⟩
theorem ok_writers {P : Program} {w : World} {K : PySem.W.Frag} {mg : Str → Option Value} {base : Heap} {a : AD} (T : Txt P K mg a) (G_moments : FnA P w K mg base 5 a.f_moments ["size", "log"] (sp_moments a)) : FnA P w K mg base 6 a.f_writers ["size", "log"] (sp_writers a) := by
  obtain ⟨fd, F, b⟩ := T.F_writers
  refine FnA.of F sc_writers b (fun vs H Q E h => by first | (obtain ⟨rfl, _⟩ := h; rfl) | (obtain ⟨_, rfl, _⟩ := h; rfl) | (obtain ⟨_, _, rfl, _⟩ := h; rfl) | (obtain ⟨_, _, _, rfl, _⟩ := h; rfl) | (obtain ⟨_, _, _, _, rfl, _⟩ := h; rfl) | (obtain ⟨_, _, _, _, _, rfl, _⟩ := h; rfl) | (obtain ⟨_, _, _, _, _, _, rfl, _⟩ := h; rfl) | (obtain ⟨_, _, _, _, _, _, _, rfl, _⟩ := h; rfl) | (obtain ⟨_, _, _, _, _, _, _, _, rfl, _⟩ := h; rfl) | (obtain ⟨_, _, _, _, _, _, _, _, _, rfl, _⟩ := h; rfl) | (obtain ⟨_, _, _, _, _, _, _, _, _, _, rfl, _⟩ := h; rfl) | (obtain ⟨_, _, _, _, _, _, _, _, _, _, _, rfl, _⟩ := h; rfl) | (obtain ⟨_, _, _, _, _, _, _, _, _, _, _, _, rfl, _⟩ := h; rfl) | (obtain ⟨_, _, _, _, _, _, _, _, _, _, _, _, _, rfl, _⟩ := h; rfl) | (obtain ⟨_, _, _, _, _, _, _, _, _, _, _, _, _, _, rfl, _⟩ := h; rfl) | (obtain ⟨_, _, _, _, _, _, _, _, _, _, _, _, _, _, _, rfl, _⟩ := h; rfl) | (obtain ⟨_, _, _, _, _, _, _, _, _, _, _, _, _, _, _, _, rfl, _⟩ := h; rfl) | (obtain ⟨_, _, _, _, _, _, _, _, _, _, _, _, _, _, _, _, _, rfl, _⟩ := h; rfl) | (obtain ⟨_, _, _, _, _, _, _, _, _, _, _, _, _, _, _, _, _, _, rfl, _⟩ := h; rfl) | (obtain ⟨_, _, _, _, _, _, _, _, _, _, _, _, _, _, _, _, _, _, _, rfl, _⟩ := h; rfl) | (obtain ⟨_, _, _, _, _, _, _, _, _, _, _, _, _, _, _, _, _, _, _, _, rfl, _⟩ := h; rfl) | (obtain ⟨_, _, _, _, _, _, _, _, _, _, _, _, _, _, _, _, _, _, _, _, _, rfl, _⟩ := h; rfl) | (obtain ⟨_, _, _, _, _, _, _, _, _, _, _, _, _, _, _, _, _, _, _, _, _, _, rfl, _⟩ := h; rfl) | (obtain ⟨_, _, _, _, _, _, _, _, _, _, _, _, _, _, _, _, _, _, _, _, _, _, _, rfl, _⟩ := h; rfl)) (fun cdv A outer s H vs Q E hr tk pz h => ?_)
  have hu := hr.units
  have hrH := L2H.roomH_of hr
  obtain ⟨n, p, log, rfl, hp, hlen, hs, h⟩ := h
  refine ⟨_, (pss_cons (ps_set (i := 2) sc_writers.nd rfl (Or.inl rfl) (pe_callA G_moments (Room.mono hr (by decide)) T.n_moments tk (pa_cons (pv 0) (pa_cons (pv 1) pa_nil))))
      (pss_cons (ps_set (i := 3) sc_writers.nd rfl (Or.inl rfl) (pe_op o_mul (pe_lst (pa_cons (pe_un un_neg pe_int) pa_nil)) (pe_op o_add (pv 0) pe_int)))
      (pss_cons (ps_set (i := 4) sc_writers.nd rfl (Or.inl rfl) (pe_op o_mul (pe_lst (pa_cons (pe_un un_neg pe_int) pa_nil)) (pe_op o_add (pv 0) pe_int)))
      (pss_cons (ps_for pz rfl (pi_enum rfl T.b_enumerate (pa_cons (pv 2) pa_nil)) (pg_tup (n := 2) rfl (pgs_cons (pg_name (i := 5) sc_writers.nd rfl (Or.inl rfl)) (pgs_cons (pg_tup (n := 3) rfl (pgs_cons (pg_name (i := 6) sc_writers.nd rfl (Or.inl rfl)) (pgs_cons (pg_name (i := 7) sc_writers.nd rfl (Or.inl rfl)) (pgs_cons (pg_name (i := 8) sc_writers.nd rfl (Or.inl rfl)) pgs_nil)))) pgs_nil)))
      (pss_cons (ps_asg (pv 5) (pg_sub (pv 3) (pv 7) set_list))
      (pss_one (ps_asg (pv 5) (pg_sub (pv 4) (pe_op op_sub (pv 8) pe_int) set_list)))))
      (pss_one (ps_ret (pe_tup (pa_cons (pv 3) (pa_cons (pv 4) pa_nil))))))))), ?_⟩
  show (_ : Ends → L2.St → Hp → Prop) _ [some _, some _, none, none, none, none, none, none, none] _
  try dsimp only [L2H.cxH, cxOf]
  walk_at "w"
  refine ⟨n, p, log, rfl, hp, hlen, hs, fun n0 n1 => ⟨(h n0 n1).1, (h n0 n1).2.1, fun hok q xs H1 hq k1 hx1 t1 => ?_⟩⟩
  have k := (h n0 n1).2.2 hok
  walk_at "w"
  intro q0 hq0
  walk_at "w"
  intro r hr
  have kr := ((Kp.refl (ms := []) (H := H1)).new (o := .lst [.int (-1)]) hq0).new (o := .lst ((List.replicate (n + 1).toNat (-1)).map V.int)) hr
  have hr1 : upd (upd H1 q0 (.lst [.int (-1)])) r (.lst ((List.replicate (n + 1).toNat (-1)).map V.int)) r = some (.lst ((wrR (s0 n) log n 0).map V.int)) := upd_same
  have hrn : H1 r = none := upd_nil hr
  generalize upd (upd H1 q0 (.lst [.int (-1)])) r (.lst ((List.replicate (n + 1).toNat (-1)).map V.int)) = H2 at kr hr1 ⊢
  walk_at "w"
  intro q1 hq1
  walk_at "w"
  intro l hl
  have kl := ((Kp.refl (ms := []) (H := H2)).new (o := .lst [.int (-1)]) hq1).new (o := .lst ((List.replicate (n + 1).toNat (-1)).map V.int)) hl
  have hl1 : upd (upd H2 q1 (.lst [.int (-1)])) l (.lst ((List.replicate (n + 1).toNat (-1)).map V.int)) l = some (.lst ((wrL (s0 n) log n 0).map V.int)) := upd_same
  have hln : H2 l = none := upd_nil hl
  have hrl : r ≠ l := ne_of_none hr1 hln
  have hr2 := kl.at0 hr1
  have hln1 := kr.free hln
  generalize upd (upd H2 q1 (.lst [.int (-1)])) l (.lst ((List.replicate (n + 1).toNat (-1)).map V.int)) = H3 at kl hl1 hr2 ⊢
  have k03 := kr.trans0 kl
  have hxl := t1.len
  rw [momF_len] at hxl
  walk_at "w"
  refine w_enumG (xs := xs) (p := q) (k03.at0 hx1) (fun i σ' H' => (∃ z1 z2 z3 z4, σ' = [some (.int n), some (.ref p), some (.ref q), some (.ref r), some (.ref l), z1, z2, z3, z4]) ∧ Kp [] H1 H' ∧ H' r = some (.lst ((wrR (s0 n) log n i).map V.int)) ∧ H' l = some (.lst ((wrL (s0 n) log n i).map V.int))) ⟨⟨_, _, _, _, rfl⟩, k03, hr2, hl1⟩ (fun i σ' H' _ h => h.2.1.at0 hx1) ?_ ?_
  · rintro i u T σ' H' hu ⟨⟨z1, z2, z3, z4, rfl⟩, hk, hr3, hl3⟩ hT
    have hil : i < xs.length := (List.getElem?_eq_some_iff.mp hu).1
    obtain ⟨b, row, rfl, er, hb⟩ := (t1.kp0 hk).getX hu
    rw [momF_get (by omega)] at er
    obtain rfl := Option.some.inj er
    have hlu : log[i]? = some log[i] := List.getElem?_eq_getElem (by omega)
    obtain ⟨_, _, v1, v2, b1, b2, b3, b4⟩ := ok_at (wfs0 n0 n1) hok hlu
    have eR := wrR_len (s0 n) log n i
    have eL := wrL_len (s0 n) log n i
    unfold mom at hb
    unfold loAt at b1 b2
    unfold hiAt at b3 b4
    have hkT := hk.new (o := .tup [.int (i : Int), .ref b]) hT
    walk_at "w"
    refine ⟨⟨_, _, _, _, rfl⟩, (hkT.own hrn).own hln1, ?_, ?_⟩
    · exact upd_get hrl upd_same
    · exact upd_same
  · rintro σ' H' ⟨⟨z1, z2, z3, z4, rfl⟩, hk, hr3, hl3⟩
    rw [hxl] at hr3 hl3
    walk_at "w"
    intro w hw
    exact k w r l _ (k1.free (hk.free hw)) (k1.free hrn) (k1.free hln1) hrl (k1.trans0 (hk.new hw)) upd_same (upd_new hw hr3) (upd_new hw hl3)

/-! ### decided, lost -/
theorem gap_app {n : Int} {s : List Int × List Int × List Bool} (W : WFs n s) {g x : Int} (g0 : 0 ≤ g) (g1 : g ≤ n) : stateOf (s.1 ++ [x]) s.2.1 g = stateOf s.1 s.2.1 g := by
  obtain ⟨m, rfl⟩ := Int.eq_ofNat_of_zero_le g0
  exact state_app W (by omega)
theorem stAt_succ {t : List Int × List Int × List Bool} {log : List Int} {i : Nat} {u : Int} (hu : log[i]? = some u) (g : Int) : stAt t log (i + 1) g = stateOf (stS (runS t (log.take i)) u).1 (stS (runS t (log.take i)) u).2.1 g := by
  unfold stAt
  rw [take_snoc hu, runS_snoc]
def sp_decided_by (a : AD) : Sp := fun vs H Q E => ∃ (n g : Int) (p : Addr) (log : List Int), vs = [.int n, .ref p, .int g] ∧ H p = some (.lst (log.map V.int)) ∧ log.length ≤ 100000 ∧ logSp a n log H E ((¬(0 ≤ g ∧ g ≤ n) → ∀ H', Kp [] H H' → xBadGap a (.int g) E H') ∧ (0 ≤ g → g ≤ n → ∀ H', Kp [] H H' → Q (.int (decF (s0 n) log g log.length)) H'))
theorem sc_decided_by : FnScope ["size", "log", "gap", "links", "state", "decided", "index", "operation", "new_state"] ["size", "log", "gap"] (defScope s_decided_by) := ⟨rfl, rfl, rfl, by decide +kernel, rfl, by decide +kernel, by decide +kernel⟩
theorem ok_decided_by {P : Program} {w : World} {K : PySem.W.Frag} {mg : Str → Option Value} {base : Heap} {a : AD} (T : Txt P K mg a) (G_check_log : FnA P w K mg base 3 a.f_check_log ["size", "log"] (sp_check_log a)) (G_check_gap : FnA P w K mg base 2 a.f_check_gap ["size", "gap"] (sp_check_gap a)) (G_Links___init__ : FnA P w K mg base 3 a.f_Links___init__ ["self", "size"] (sp_Links___init__ a)) (G_gap_state : FnA P w K mg base 4 a.f_gap_state ["links", "gap"] (sp_gap_state a)) (G_Links_apply_at : FnA P w K mg base 3 a.f_Links_apply_at ["self", "operation", "index"] (sp_Links_apply_at a)) : FnA P w K mg base 5 a.f_decided_by ["size", "log", "gap"] (sp_decided_by a) := by
  obtain ⟨fd, F, b⟩ := T.F_decided_by
  refine FnA.of F sc_decided_by b (fun vs H Q E h => by first | (obtain ⟨rfl, _⟩ := h; rfl) | (obtain ⟨_, rfl, _⟩ := h; rfl) | (obtain ⟨_, _, rfl, _⟩ := h; rfl) | (obtain ⟨_, _, _, rfl, _⟩ := h; rfl) | (obtain ⟨_, _, _, _, rfl, _⟩ := h; rfl) | (obtain ⟨_, _, _, _, _, rfl, _⟩ := h; rfl) | (obtain ⟨_, _, _, _, _, _, rfl, _⟩ := h; rfl) | (obtain ⟨_, _, _, _, _, _, _, rfl, _⟩ := h; rfl) | (obtain ⟨_, _, _, _, _, _, _, _, rfl, _⟩ := h; rfl) | (obtain ⟨_, _, _, _, _, _, _, _, _, rfl, _⟩ := h; rfl) | (obtain ⟨_, _, _, _, _, _, _, _, _, _, rfl, _⟩ := h; rfl) | (obtain ⟨_, _, _, _, _, _, _, _, _, _, _, rfl, _⟩ := h; rfl) | (obtain ⟨_, _, _, _, _, _, _, _, _, _, _, _, rfl, _⟩ := h; rfl) | (obtain ⟨_, _, _, _, _, _, _, _, _, _, _, _, _, rfl, _⟩ := h; rfl) | (obtain ⟨_, _, _, _, _, _, _, _, _, _, _, _, _, _, rfl, _⟩ := h; rfl) | (obtain ⟨_, _, _, _, _, _, _, _, _, _, _, _, _, _, _, rfl, _⟩ := h; rfl) | (obtain ⟨_, _, _, _, _, _, _, _, _, _, _, _, _, _, _, _, rfl, _⟩ := h; rfl) | (obtain ⟨_, _, _, _, _, _, _, _, _, _, _, _, _, _, _, _, _, rfl, _⟩ := h; rfl) | (obtain ⟨_, _, _, _, _, _, _, _, _, _, _, _, _, _, _, _, _, _, rfl, _⟩ := h; rfl) | (obtain ⟨_, _, _, _, _, _, _, _, _, _, _, _, _, _, _, _, _, _, _, rfl, _⟩ := h; rfl) | (obtain ⟨_, _, _, _, _, _, _, _, _, _, _, _, _, _, _, _, _, _, _, _, rfl, _⟩ := h; rfl) | (obtain ⟨_, _, _, _, _, _, _, _, _, _, _, _, _, _, _, _, _, _, _, _, _, rfl, _⟩ := h; rfl) | (obtain ⟨_, _, _, _, _, _, _, _, _, _, _, _, _, _, _, _, _, _, _, _, _, _, rfl, _⟩ := h; rfl) | (obtain ⟨_, _, _, _, _, _, _, _, _, _, _, _, _, _, _, _, _, _, _, _, _, _, _, rfl, _⟩ := h; rfl)) (fun cdv A outer s H vs Q E hr tk pz h => ?_)
  have hu := hr.units
  have hrH := L2H.roomH_of hr
  obtain ⟨n, g, p, log, rfl, hp, hlen, hs, h⟩ := h
  refine ⟨_, (pss_cons (ps_expr (pe_callA G_check_log (Room.mono hr (by decide)) T.n_check_log tk (pa_cons (pv 0) (pa_cons (pv 1) pa_nil))))
      (pss_cons (ps_expr (pe_callA G_check_gap (Room.mono hr (by decide)) T.n_check_gap tk (pa_cons (pv 0) (pa_cons (pv 2) pa_nil))))
      (pss_cons (ps_set (i := 3) sc_decided_by.nd rfl (Or.inl rfl) (pe_makeS G_Links___init__ T.mk_Links (Room.mono hr (by decide)) T.c_Links tk (pa_cons (pv 0) pa_nil)))
      (pss_cons (ps_set (i := 4) sc_decided_by.nd rfl (Or.inl rfl) (pe_callA G_gap_state (Room.mono hr (by decide)) T.n_gap_state tk (pa_cons (pv 3) (pa_cons (pv 2) pa_nil))))
      (pss_cons (ps_set (i := 5) sc_decided_by.nd rfl (Or.inl rfl) (pe_un un_neg pe_int))
      (pss_cons (ps_for pz rfl (pi_enum rfl T.b_enumerate (pa_cons (pv 1) pa_nil)) (pg_tup (n := 2) rfl (pgs_cons (pg_name (i := 6) sc_decided_by.nd rfl (Or.inl rfl)) (pgs_cons (pg_name (i := 7) sc_decided_by.nd rfl (Or.inl rfl)) pgs_nil)))
      (pss_cons (ps_expr (pe_methS (pl := _) G_Links_apply_at (Room.mono hr (by decide)) T.cl_Links T.me_Links_apply_at tk (pv 3) (pa_cons (pv 7) (pa_cons (pv 6) pa_nil))))
      (pss_cons (ps_set (i := 8) sc_decided_by.nd rfl (Or.inl rfl) (pe_callA G_gap_state (Room.mono hr (by decide)) T.n_gap_state tk (pa_cons (pv 3) (pa_cons (pv 2) pa_nil))))
      (pss_cons (ps_if (pt_cmpA (o_ne hu) (pv 8) (pv 4) (nomark _)) (pss_one (ps_set (i := 5) sc_decided_by.nd rfl (Or.inl rfl) (pv 6))) pss_nil)
      (pss_one (ps_set (i := 4) sc_decided_by.nd rfl (Or.inl rfl) (pv 8)))))))
      (pss_one (ps_ret (pv 5))))))))), ?_⟩
  show (_ : Ends → L2.St → Hp → Prop) _ [some _, some _, some _, none, none, none, none, none, none] _
  try dsimp only [L2H.cxH, cxOf]
  walk_at "w"
  refine ⟨n, p, log, rfl, hp, hlen, hs, fun n0 n1 => ⟨(h n0 n1).1, (h n0 n1).2.1, fun hok H1 k1 => ?_⟩⟩
  obtain ⟨hg, k⟩ := (h n0 n1).2.2 hok
  have hp1 := k1.at0 hp
  walk_at "w"
  refine ⟨n, g, rfl, fun z => hg z H1 k1, fun g0 g1 => ?_⟩
  walk_at "w"
  refine mk_new (fun z => absurd ⟨n0, n1⟩ z) fun _ _ x l r f H2 hx hl hr hf hL k2 => ?_
  have W0 := wfs0 n0 n1
  walk_at "w"
  refine ⟨x, l, r, f, n, g, _, _, _, rfl, hL.obj W0, fun z => absurd ⟨g0, g1⟩ z, fun _ _ => ?_⟩
  rw [gap_app W0 g0 g1]
  walk_at "w"
  refine w_enumM (us := log) (f := V.int) (p := p) (k2.at0 hp1) (fun i σ' H' => (∃ z1 z2 z3, σ' = [some (.int n), some (.ref p), some (.int g), some (.ref x), some (.str (stAt (s0 n) log i g)), some (.int (decF (s0 n) log g i)), z1, z2, z3]) ∧ Kp [] H1 H' ∧ LkS a H' x l r f n (runS (s0 n) (log.take i))) ⟨⟨_, _, _, rfl⟩, k2, hL⟩ (fun i σ' H' _ h => h.2.1.at0 hp1) ?_ ?_
  · rintro i u T σ' H' hu ⟨⟨z1, z2, z3, rfl⟩, hk, hL2⟩ hT
    have hil : i < log.length := (List.getElem?_eq_some_iff.mp hu).1
    have hO := ok_at W0 hok hu
    have hkT := hk.new (o := .tup [.int (i : Int), .int u]) hT
    have hLT := hL2.kp0 (Kp.refl.new (o := .tup [.int (i : Int), .int u]) hT)
    generalize upd H' T (.tup [.int (i : Int), .int u]) = H3 at hkT hLT ⊢
    have hx3 := hLT.1.choose_spec
    walk_at "w"
    refine ap_step W0 hu (fun j o hj ho => hok j o (by omega) ho) rfl (by omega) hLT (fun z => absurd hO.1.1 z) (fun _ z => absurd z hO.1.2) (fun hO' Wi hok' H4 hL4 k4 => ?_)
    have k04 := kp_new3 hkT hl hr hf k4
    have W4 : WFs n (stS (runS (s0 n) (log.take i)) u) := WF.ap Wi hO'.1
    walk_at "w"
    refine ⟨x, l, r, f, n, g, _, _, _, rfl, hL4.obj W4, fun z => absurd ⟨g0, g1⟩ z, fun _ _ => ?_⟩
    rw [gap_app W4 g0 g1, ← stAt_succ hu]
    walk_at "w"
    refine w_iteN (fun c => ?_) (fun c => ?_)
    · walk_at "w"
      refine ⟨⟨some (.int (i : Int)), some (.int u), some (.str (stAt (s0 n) log (i + 1) g)), ?_⟩, k04, ?_⟩
      · rw [decF, if_neg c]; rfl
      · rw [take_snoc hu, runS_snoc]; exact hL4
    · walk_at "w"
      refine ⟨⟨some (.int (i : Int)), some (.int u), some (.str (stAt (s0 n) log (i + 1) g)), ?_⟩, k04, ?_⟩
      · rw [decF, if_pos c]; rfl
      · rw [take_snoc hu, runS_snoc]; exact hL4
  · rintro σ' H' ⟨⟨z1, z2, z3, rfl⟩, hk, hL2⟩
    walk_at "w"
    exact k g0 g1 H' (k1.trans0 hk)
/-- the loss as a value -/
def LsV (H : Hp) (v : V) : Option (Nat × Int) → Prop
  | none => v = .non
  | some (i, g) => ∃ t, v = .ref t ∧ H t = some (.tup [.int (i : Int), .int g])
theorem LsV.kp0 {H H' : Hp} {v : V} {q : Option (Nat × Int)} (h : LsV H v q) (k : Kp [] H H') : LsV H' v q := by
  cases q with
  | none => exact h
  | some p =>
    obtain ⟨t, h1, h2⟩ := h
    exact ⟨t, h1, k.at0 h2⟩
def sp_first_loss (a : AD) : Sp := fun vs H Q E => ∃ (n : Int) (p : Addr) (log : List Int), vs = [.int n, .ref p] ∧ H p = some (.lst (log.map V.int)) ∧ log.length ≤ 100000 ∧ logSp a n log H E (∀ v H', Kp [] H H' → LsV H' v (lossF (s0 n) log log.length) → Q v H')
/-! ### legal logs, by signs -/
/-- is the node out behind the log -/
def sg (log : List Int) (v : Nat) : Bool := log.foldl (fun b o => if o.natAbs = v then decide (o < 0) else b) false
theorem sg_snoc (log : List Int) (o : Int) (v : Nat) : sg (log ++ [o]) v = if o.natAbs = v then decide (o < 0) else sg log v := by
  unfold sg
  rw [List.foldl_append]; rfl
theorem F_snoc (t : List Int × List Int × List Bool) (l : List Int) (o : Int) : (runS t (l ++ [o])).2.2 = apF (runS t l).2.2 o := by rw [runS_snoc]; rfl
theorem runF_len {t : List Int × List Int × List Bool} : ∀ (k : Nat) (l : List Int), (runS t (l.take k)).2.2.length = t.2.2.length
  | 0, l => by rw [List.take_zero]; rfl
  | k + 1, l => by
    by_cases h : k < l.length
    · rw [take_snoc (List.getElem?_eq_getElem h), F_snoc]
      unfold apF
      rw [List.length_set, runF_len k l]
    · rw [List.take_of_length_le (by omega), ← List.take_of_length_le (show l.length ≤ k by omega)]
      exact runF_len k l
theorem runF_sg {n : Int} {log : List Int} (h : ∀ o ∈ log, IsOp n o) {v : Nat} (hv : (v : Int) ≤ n) (v1 : 1 ≤ v) : ∀ k, k ≤ log.length → (runS (s0 n) (log.take k)).2.2.getD v default = sg (log.take k) v
  | 0, _ => by
    rw [List.take_zero]
    show (List.replicate (n + 2).toNat false).getD v default = false
    exact rep_get (by omega)
  | k + 1, hk => by
    have hu : log[k]? = some log[k] := List.getElem?_eq_getElem (by omega)
    have ho := h log[k] (List.getElem_mem _)
    have ih := runF_sg h hv v1 k (by omega)
    have hl := runF_len (t := s0 n) k log
    have hl2 : (s0 n).2.2.length = (n + 2).toNat := by simp [s0]
    have h2 := ho.2
    rw [take_snoc hu, F_snoc, sg_snoc]
    unfold apF
    by_cases z : log[k].natAbs = v
    · rw [if_pos z, ← z, getD_set_eq (by omega)]
    · rw [if_neg z, getD_set_ne z, ih]
def goodL (n : Int) (log : List Int) : Prop := ∀ (i : Nat) (o : Int), log[i]? = some o → IsOp n o ∧ sg (log.take i) o.natAbs ≠ decide (o < 0)
theorem good_ok {n : Int} {log : List Int} (h : goodL n log) : okTo n (s0 n) log log.length := by
  have hm : ∀ o ∈ log, IsOp n o := fun o ho => by
    obtain ⟨i, hi, rfl⟩ := List.mem_iff_getElem.mp ho
    exact (h i _ (List.getElem?_eq_getElem hi)).1
  intro j o hj ho
  have := h j o ho
  have h1 := this.1.1
  have h2 := this.1.2
  refine ⟨this.1, ?_⟩
  rw [runF_sg hm h2 (by omega) j (by omega)]
  exact this.2
theorem good_nil (n : Int) : goodL n [] := fun i o h => by simp at h
/-- the nodes are named anew, the signs stay -/
theorem sg_map {f : Int → Int} {φ : Nat → Nat} {m : Int} : ∀ {log : List Int}, (∀ o ∈ log, IsOp m o) → (∀ o, IsOp m o → (f o).natAbs = φ o.natAbs ∧ (f o < 0 ↔ o < 0)) → (∀ u v : Nat, 1 ≤ u → 1 ≤ v → (u : Int) ≤ m → (v : Int) ≤ m → φ u = φ v → u = v) → ∀ v : Nat, 1 ≤ v → (v : Int) ≤ m → sg (log.map f) (φ v) = sg log v := by
  intro log hm hf hi v v1 v2
  have key : ∀ (l : List Int) (b : Bool), (∀ o ∈ l, IsOp m o) → (l.map f).foldl (fun b o => if o.natAbs = φ v then decide (o < 0) else b) b = l.foldl (fun b o => if o.natAbs = v then decide (o < 0) else b) b := by
    intro l
    induction l with
    | nil => intro b _; rfl
    | cons o l ih =>
      intro b h
      have ho := h o List.mem_cons_self
      have h1 := ho.1
      have h2 := ho.2
      obtain ⟨e1, e2⟩ := hf o ho
      rw [List.map_cons, List.foldl_cons, List.foldl_cons]
      have e : (if (f o).natAbs = φ v then decide (f o < 0) else b) = if o.natAbs = v then decide (o < 0) else b := by
        by_cases z : o.natAbs = v
        · rw [if_pos z, if_pos (by rw [e1, z])]
          exact decide_eq_decide.mpr e2
        · rw [if_neg z, if_neg (fun q => z (hi _ _ (by omega) v1 h2 v2 (by rw [← e1]; exact q)))]
      rw [e]
      exact ih _ (fun x hx => h x (List.mem_cons_of_mem _ hx))
  exact key log false hm
theorem good_map {f : Int → Int} {φ : Nat → Nat} {m n : Int} {log : List Int} (h : goodL m log) (hf : ∀ o, IsOp m o → (f o).natAbs = φ o.natAbs ∧ (f o < 0 ↔ o < 0) ∧ IsOp n (f o)) (hi : ∀ u v : Nat, 1 ≤ u → 1 ≤ v → (u : Int) ≤ m → (v : Int) ≤ m → φ u = φ v → u = v) : goodL n (log.map f) := by
  intro i o ho
  rw [List.getElem?_map] at ho
  obtain ⟨u, hu, rfl⟩ := Option.map_eq_some_iff.mp ho
  have hm : ∀ o ∈ log.take i, IsOp m o := fun o ho => by
    obtain ⟨j, hj, rfl⟩ := List.mem_iff_getElem.mp (List.mem_of_mem_take ho)
    exact (h j _ (List.getElem?_eq_getElem hj)).1
  have hu' := h i u hu
  have h1 := hu'.1.1
  have h2 := hu'.1.2
  obtain ⟨e1, e2, e3⟩ := hf u hu'.1
  refine ⟨e3, ?_⟩
  rw [← List.map_take, e1, sg_map hm (fun o ho => ⟨(hf o ho).1, (hf o ho).2.1⟩) hi u.natAbs (by omega) h2, show decide (f u < 0) = decide (u < 0) from decide_eq_decide.mpr e2]
  exact hu'.2
theorem good_shift {m n lo : Int} {log : List Int} (h : goodL m log) (l0 : 0 ≤ lo) (l1 : lo + m ≤ n) : goodL n (log.map fun o => if o > 0 then o + lo else o - lo) := by
  refine good_map (φ := fun v => v + lo.toNat) h (fun o ho => ?_) (fun u v _ _ _ _ e => by simpa using e)
  have h1 := ho.1
  have h2 := ho.2
  unfold IsOp
  split <;> omega
theorem good_turn {m : Int} {log : List Int} (h : goodL m log) : goodL m (log.map fun o => if o > 0 then m + 1 - o else -m - 1 - o) := by
  refine good_map (φ := fun v => (m + 1).toNat - v) h (fun o ho => ?_) (fun u v _ _ _ _ e => by have e : (m + 1).toNat - u = (m + 1).toNat - v := e; omega)
  have h1 := ho.1
  have h2 := ho.2
  unfold IsOp
  split <;> omega
def chkL (m : Int) (log : List Int) : Bool := (List.range log.length).all fun i => decide (IsOp m (log.getD i 0)) && (sg (log.take i) (log.getD i 0).natAbs != decide (log.getD i 0 < 0))
theorem good_of_chk {m : Int} {log : List Int} (h : chkL m log = true) : goodL m log := by
  intro i o ho
  have hi : i < log.length := (List.getElem?_eq_some_iff.mp ho).1
  have e : log.getD i 0 = o := by rw [List.getD_eq_getElem?_getD, ho]; rfl
  have := (List.all_eq_true.mp h) i (List.mem_range.mpr hi)
  rw [e, Bool.and_eq_true] at this
  exact ⟨by simpa using this.1, by simpa using this.2⟩
/-! ### the whole list -/
def sp__law_whole (a : AD) : Sp := fun vs H Q _ => ∃ (n : Int), vs = [.int n] ∧ 0 ≤ n ∧ n ≤ 60 ∧ ∀ (w r l f : Addr) (H' : Hp), H w = none → H r = none → H l = none → H f = none → Wd H' w r l f n (s0 n).1 (s0 n).2.1 (s0 n).2.2 → Kp [] H H' → Q (.ref w) H'
theorem sc__law_whole : FnScope ["_law_size_here", "_law_node", "_law_rights", "_law_lefts"] ["_law_size_here"] (defScope s__law_whole) := ⟨rfl, rfl, rfl, by decide +kernel, rfl, by decide +kernel, by decide +kernel⟩
theorem ok__law_whole {P : Program} {w : World} {K : PySem.W.Frag} {mg : Str → Option Value} {base : Heap} {a : AD} (T : Txt P K mg a) : FnA P w K mg base 2 a.f__law_whole ["_law_size_here"] (sp__law_whole a) := by
  obtain ⟨fd, F, b⟩ := T.F__law_whole
  refine FnA.of F sc__law_whole b (fun vs H Q E h => by first | (obtain ⟨rfl, _⟩ := h; rfl) | (obtain ⟨_, rfl, _⟩ := h; rfl) | (obtain ⟨_, _, rfl, _⟩ := h; rfl) | (obtain ⟨_, _, _, rfl, _⟩ := h; rfl) | (obtain ⟨_, _, _, _, rfl, _⟩ := h; rfl) | (obtain ⟨_, _, _, _, _, rfl, _⟩ := h; rfl) | (obtain ⟨_, _, _, _, _, _, rfl, _⟩ := h; rfl) | (obtain ⟨_, _, _, _, _, _, _, rfl, _⟩ := h; rfl) | (obtain ⟨_, _, _, _, _, _, _, _, rfl, _⟩ := h; rfl) | (obtain ⟨_, _, _, _, _, _, _, _, _, rfl, _⟩ := h; rfl) | (obtain ⟨_, _, _, _, _, _, _, _, _, _, rfl, _⟩ := h; rfl) | (obtain ⟨_, _, _, _, _, _, _, _, _, _, _, rfl, _⟩ := h; rfl) | (obtain ⟨_, _, _, _, _, _, _, _, _, _, _, _, rfl, _⟩ := h; rfl) | (obtain ⟨_, _, _, _, _, _, _, _, _, _, _, _, _, rfl, _⟩ := h; rfl) | (obtain ⟨_, _, _, _, _, _, _, _, _, _, _, _, _, _, rfl, _⟩ := h; rfl) | (obtain ⟨_, _, _, _, _, _, _, _, _, _, _, _, _, _, _, rfl, _⟩ := h; rfl) | (obtain ⟨_, _, _, _, _, _, _, _, _, _, _, _, _, _, _, _, rfl, _⟩ := h; rfl) | (obtain ⟨_, _, _, _, _, _, _, _, _, _, _, _, _, _, _, _, _, rfl, _⟩ := h; rfl) | (obtain ⟨_, _, _, _, _, _, _, _, _, _, _, _, _, _, _, _, _, _, rfl, _⟩ := h; rfl) | (obtain ⟨_, _, _, _, _, _, _, _, _, _, _, _, _, _, _, _, _, _, _, rfl, _⟩ := h; rfl) | (obtain ⟨_, _, _, _, _, _, _, _, _, _, _, _, _, _, _, _, _, _, _, _, rfl, _⟩ := h; rfl) | (obtain ⟨_, _, _, _, _, _, _, _, _, _, _, _, _, _, _, _, _, _, _, _, _, rfl, _⟩ := h; rfl) | (obtain ⟨_, _, _, _, _, _, _, _, _, _, _, _, _, _, _, _, _, _, _, _, _, _, rfl, _⟩ := h; rfl) | (obtain ⟨_, _, _, _, _, _, _, _, _, _, _, _, _, _, _, _, _, _, _, _, _, _, _, rfl, _⟩ := h; rfl)) (fun cdv A outer s H vs Q E hr tk pz h => ?_)
  have hu := hr.units
  have hrH := L2H.roomH_of hr
  obtain ⟨n, rfl, n0, n1, k⟩ := h
  refine ⟨_, (pss_cons (ps_setLc (i := 2) (own := [("_law_node", 1)]) (g := (gName 1)) (tt := tYes) rfl sc__law_whole.nd rfl rfl (sw_true rfl rfl rfl (by decide +kernel)) (pi_range1 rfl T.b_range (pa_cons (pe_op o_add (pv 0) pe_int) pa_nil)) (blkOk_by (own := [("_law_node", 1)]) (N := ["_law_size_here", "_law_node", "_law_rights", "_law_lefts"]) (sc := defScope s__law_whole) (by decide +kernel)) (fun _ _ _ _ _ => (pg_name (i := 1) sc__law_whole.nd rfl (Or.inl rfl))) (fun _ _ _ _ _ => pts_nil) (fun _ _ _ _ _ => (pe_op o_add (pv 1) pe_int)))
      (pss_cons (ps_setLc (i := 3) (own := [("_law_node", 1)]) (g := (gName 1)) (tt := tYes) rfl sc__law_whole.nd rfl rfl (sw_true rfl rfl rfl (by decide +kernel)) (pi_range1 rfl T.b_range (pa_cons (pe_op o_add (pv 0) pe_int) pa_nil)) (blkOk_by (own := [("_law_node", 1)]) (N := ["_law_size_here", "_law_node", "_law_rights", "_law_lefts"]) (sc := defScope s__law_whole) (by decide +kernel)) (fun _ _ _ _ _ => (pg_name (i := 1) sc__law_whole.nd rfl (Or.inl rfl))) (fun _ _ _ _ _ => pts_nil) (fun _ _ _ _ _ => (pe_op op_sub (pv 1) pe_int)))
      (pss_one (ps_ret (pe_lst (pa_cons (pv 0) (pa_cons (pv 2) (pa_cons (pv 3) (pa_cons (pe_lc (own := [("_law_node", 1)]) (g := (gName 1)) (tt := tYes) rfl sc__law_whole.nd (pi_range1 rfl T.b_range (pa_cons (pe_op o_add (pv 0) pe_int) pa_nil)) (blkOk_by (own := [("_law_node", 1)]) (N := ["_law_size_here", "_law_node", "_law_rights", "_law_lefts"]) (sc := defScope s__law_whole) (by decide +kernel)) (fun _ _ _ _ _ => (pg_name (i := 1) sc__law_whole.nd rfl (Or.inl rfl))) (fun _ _ _ _ _ => pts_nil) (fun _ _ _ _ _ => pe_bl)) pa_nil))))))))), ?_⟩
  show (_ : Ends → L2.St → Hp → Prop) _ [some _, none, none, none] _
  try dsimp only [L2H.cxH, cxOf]
  walk_at "w"
  refine w_lcR1 (f' := V.int) (fun i : Nat => some ((i : Int) + 1)) (n := n + 1) (by omega) (by omega) (by rw [sizeLine_eq]; omega) ?_ ?_
  · intro D i acc H' hD hi hk hA hlen
    walk_at "w"
    refine ⟨rfl, ?_⟩
    walk_at "w"
    exact w_keep hk hA hlen hD rfl
  intro r H2 hr hk2 hR
  rw [fm_some] at hR
  have hR : H2 r = some (.lst ((r0 n).map V.int)) := hR
  walk_at "w"
  refine w_lcR1 (f' := V.int) (fun i : Nat => some ((i : Int) - 1)) (n := n + 2) (by omega) (by omega) (by rw [sizeLine_eq]; omega) ?_ ?_
  · intro D i acc H' hD hi hk hA hlen
    walk_at "w"
    refine ⟨rfl, ?_⟩
    walk_at "w"
    exact w_keep hk hA hlen hD rfl
  intro l H3 hl hk3 hL
  rw [fm_some] at hL
  have hL : H3 l = some (.lst ((l0 n).map V.int)) := hL
  walk_at "w"
  refine w_lcR1 (f' := V.bl) (fun i : Nat => some false) (n := n + 2) (by omega) (by omega) (by rw [sizeLine_eq]; omega) ?_ ?_
  · intro D i acc H' hD hi hk hA hlen
    walk_at "w"
    refine ⟨rfl, ?_⟩
    walk_at "w"
    exact w_keep hk hA hlen hD rfl
  intro f H4 hf hk4 hF
  rw [fm_rep] at hF
  have rl : r ≠ l := ne_of_none hR hl
  have rf : r ≠ f := ne_of_none (hk3.at0 hR) hf
  have lf : l ≠ f := ne_of_none hL hf
  have hR4 := hk4.at0 (hk3.at0 hR)
  have hL4 := hk4.at0 hL
  walk_at "w"
  intro w hw
  have wr : w ≠ r := Ne.symm (ne_of_none hR4 hw)
  have wl : w ≠ l := Ne.symm (ne_of_none hL4 hw)
  have wf : w ≠ f := Ne.symm (ne_of_none hF hw)
  exact k w r l f _ (hk2.free (hk3.free (hk4.free hw))) hr (hk2.free hl) (hk2.free (hk3.free hf)) ⟨upd_same, upd_new hw hR4, upd_new hw hL4, upd_new hw hF, wr, wl, wf, rl, rf, lf⟩ (((hk2.trans0 hk3).trans0 hk4).new hw)
/-! ### planted rows -/
def sp__law_planted (a : AD) : Sp := fun vs H Q _ => ∃ (b : Addr) (n : Int), vs = [.ref b, .int n] ∧ Bag H b ∧ 0 ≤ n ∧ n ≤ 60 ∧ ∀ (d : Addr) (us : List Int) (H' : Hp), H d = none → Kp [b] H H' → Bag H' b → H' d = some (.lst (us.map V.int)) → us.length ≤ 9 → goodL n us → Q (.ref d) H'
theorem sc__law_planted : FnScope ["_law_bag_here", "_law_size_here", "_law_way", "_law_turned", "_law_rows", "_law_span", "_law_row", "_law_deed", "_law_low"] ["_law_bag_here", "_law_size_here"] (defScope s__law_planted) := ⟨rfl, rfl, rfl, by decide +kernel, rfl, by decide +kernel, by decide +kernel⟩
theorem ok__law_planted {P : Program} {w : World} {K : PySem.W.Frag} {mg : Str → Option Value} {base : Heap} {a : AD} (T : Txt P K mg a) (G__law_draw : FnA P w K mg base 2 a.f__law_draw ["_law_bag_here", "_law_many"] (sp__law_draw a)) : FnA P w K mg base 3 a.f__law_planted ["_law_bag_here", "_law_size_here"] (sp__law_planted a) := by
  obtain ⟨fd, F, b⟩ := T.F__law_planted
  refine FnA.of F sc__law_planted b (fun vs H Q E h => by first | (obtain ⟨rfl, _⟩ := h; rfl) | (obtain ⟨_, rfl, _⟩ := h; rfl) | (obtain ⟨_, _, rfl, _⟩ := h; rfl) | (obtain ⟨_, _, _, rfl, _⟩ := h; rfl) | (obtain ⟨_, _, _, _, rfl, _⟩ := h; rfl) | (obtain ⟨_, _, _, _, _, rfl, _⟩ := h; rfl) | (obtain ⟨_, _, _, _, _, _, rfl, _⟩ := h; rfl) | (obtain ⟨_, _, _, _, _, _, _, rfl, _⟩ := h; rfl) | (obtain ⟨_, _, _, _, _, _, _, _, rfl, _⟩ := h; rfl) | (obtain ⟨_, _, _, _, _, _, _, _, _, rfl, _⟩ := h; rfl) | (obtain ⟨_, _, _, _, _, _, _, _, _, _, rfl, _⟩ := h; rfl) | (obtain ⟨_, _, _, _, _, _, _, _, _, _, _, rfl, _⟩ := h; rfl) | (obtain ⟨_, _, _, _, _, _, _, _, _, _, _, _, rfl, _⟩ := h; rfl) | (obtain ⟨_, _, _, _, _, _, _, _, _, _, _, _, _, rfl, _⟩ := h; rfl) | (obtain ⟨_, _, _, _, _, _, _, _, _, _, _, _, _, _, rfl, _⟩ := h; rfl) | (obtain ⟨_, _, _, _, _, _, _, _, _, _, _, _, _, _, _, rfl, _⟩ := h; rfl) | (obtain ⟨_, _, _, _, _, _, _, _, _, _, _, _, _, _, _, _, rfl, _⟩ := h; rfl) | (obtain ⟨_, _, _, _, _, _, _, _, _, _, _, _, _, _, _, _, _, rfl, _⟩ := h; rfl) | (obtain ⟨_, _, _, _, _, _, _, _, _, _, _, _, _, _, _, _, _, _, rfl, _⟩ := h; rfl) | (obtain ⟨_, _, _, _, _, _, _, _, _, _, _, _, _, _, _, _, _, _, _, rfl, _⟩ := h; rfl) | (obtain ⟨_, _, _, _, _, _, _, _, _, _, _, _, _, _, _, _, _, _, _, _, rfl, _⟩ := h; rfl) | (obtain ⟨_, _, _, _, _, _, _, _, _, _, _, _, _, _, _, _, _, _, _, _, _, rfl, _⟩ := h; rfl) | (obtain ⟨_, _, _, _, _, _, _, _, _, _, _, _, _, _, _, _, _, _, _, _, _, _, rfl, _⟩ := h; rfl) | (obtain ⟨_, _, _, _, _, _, _, _, _, _, _, _, _, _, _, _, _, _, _, _, _, _, _, rfl, _⟩ := h; rfl)) (fun cdv A outer s H vs Q E hr tk pz h => ?_)
  have hu := hr.units
  have hrH := L2H.roomH_of hr
  obtain ⟨b, n, rfl, hB, n0, n1, k⟩ := h
  refine ⟨_, (pss_cons (ps_set (i := 2) sc__law_planted.nd rfl (Or.inl rfl) (pe_callA G__law_draw (Room.mono hr (by decide)) T.n__law_draw tk (pa_cons (pv 0) (pa_cons pe_int pa_nil))))
      (pss_cons (ps_set (i := 3) sc__law_planted.nd rfl (Or.inl rfl) (pe_callA G__law_draw (Room.mono hr (by decide)) T.n__law_draw tk (pa_cons (pv 0) (pa_cons pe_int pa_nil))))
      (pss_cons (ps_set (i := 4) sc__law_planted.nd rfl (Or.inl rfl) (pe_lst (pa_cons (pe_lst (pa_cons (pe_un un_neg pe_int) (pa_cons (pe_un un_neg pe_int) (pa_cons pe_int (pa_cons (pe_un un_neg pe_int) (pa_cons (pe_un un_neg pe_int) pa_nil)))))) (pa_cons (pe_lst (pa_cons (pe_un un_neg pe_int) (pa_cons (pe_un un_neg pe_int) (pa_cons (pe_un un_neg pe_int) (pa_cons pe_int (pa_cons pe_int pa_nil)))))) (pa_cons (pe_lst (pa_cons (pe_un un_neg pe_int) (pa_cons (pe_un un_neg pe_int) (pa_cons pe_int (pa_cons (pe_un un_neg pe_int) (pa_cons pe_int (pa_cons pe_int pa_nil))))))) pa_nil)))))
      (pss_cut (ps_expr (pe_bm PySem.F.plainAttrs_list PySem.F.slot_list_append PySem.F.type_list_append mt_append (pv 4) (pa_cons (pe_lst (pa_cons (pe_un un_neg pe_int) (pa_cons (pe_un un_neg pe_int) (pa_cons pe_int (pa_cons (pe_un un_neg pe_int) (pa_cons (pe_un un_neg pe_int) (pa_cons (pe_un un_neg pe_int) (pa_cons pe_int (pa_cons (pe_un un_neg pe_int) (pa_cons (pe_un un_neg pe_int) pa_nil)))))))))) pa_nil)))
      (pss_cons (ps_set (i := 5) sc__law_planted.nd rfl (Or.inr rfl) (pe_op o_add pe_int (pe_op o_mul pe_int (pe_op op_fdiv (pv 2) pe_int))))
      (pss_cons (ps_if (PW.pt (pw_or (pt_cmpA op_gt (pv 2) pe_int (nomark _)) (pw_or1 (pt_cmpA op_lt (pv 1) (pv 5) (nomark _))))) (pss_one (ps_ret (pe_lst pa_nil))) pss_nil)
      (pss_cut (ps_set (i := 6) sc__law_planted.nd rfl (Or.inl rfl) (pe_ix ix_seq (pv 4) (pv 2) (fun _ _ => rfl)))
      (pss_cut (ps_if (pt_cmpA (o_eq hu) (pv 3) pe_int (nomark _)) (pss_one (ps_setLc (i := 6) (own := [("_law_deed", 7)]) (g := (gName 7)) (tt := tYes) rfl sc__law_planted.nd rfl rfl (sw_true rfl rfl rfl (by decide +kernel)) (pi_list (pv 6)) (blkOk_by (own := [("_law_deed", 7)]) (N := ["_law_bag_here", "_law_size_here", "_law_way", "_law_turned", "_law_rows", "_law_span", "_law_row", "_law_deed", "_law_low"]) (sc := defScope s__law_planted) (by decide +kernel)) (fun _ _ _ _ _ => (pg_name (i := 7) sc__law_planted.nd rfl (Or.inl rfl))) (fun _ _ _ _ _ => pts_nil) (fun _ _ _ _ _ => (pe_ifExp (pt_cmpA op_gt (pv 7) pe_int (nomark _)) (pe_op op_sub (pe_op o_add (pv 5) pe_int) (pv 7)) (pe_op op_sub (pe_op op_sub (pe_un un_neg (pv 5)) pe_int) (pv 7)))))) pss_nil)
      (pss_cons (ps_set (i := 8) sc__law_planted.nd rfl (Or.inr rfl) (pe_callA G__law_draw (Room.mono hr (by decide)) T.n__law_draw tk (pa_cons (pv 0) (pa_cons (pe_op o_add (pe_op op_sub (pv 1) (pv 5)) pe_int) pa_nil))))
      (pss_one (ps_ret (pe_lc (own := [("_law_deed", 7)]) (g := (gName 7)) (tt := tYes) rfl sc__law_planted.nd (pi_list (pv 6)) (blkOk_by (own := [("_law_deed", 7)]) (N := ["_law_bag_here", "_law_size_here", "_law_way", "_law_turned", "_law_rows", "_law_span", "_law_row", "_law_deed", "_law_low"]) (sc := defScope s__law_planted) (by decide +kernel)) (fun _ _ _ _ _ => (pg_name (i := 7) sc__law_planted.nd rfl (Or.inl rfl))) (fun _ _ _ _ _ => pts_nil) (fun _ _ _ _ _ => (pe_ifExp (pt_cmpA op_gt (pv 7) pe_int (nomark _)) (pe_op o_add (pv 7) (pv 8)) (pe_op op_sub (pv 7) (pv 8)))))))))))))))), ?_⟩
  show (_ : Ends → L2.St → Hp → Prop) _ [some _, some _, none, none, none, none, none, none, none] _
  try dsimp only [L2H.cxH, cxOf]
  walk_at "w"
  refine ⟨b, _, rfl, hB, by omega, by omega, fun way H1 w0 w1 B1 k1 => ?_⟩
  walk_at "w"
  refine ⟨b, _, rfl, B1, by omega, by omega, fun trn H2 t0 t1 B2 k2 => ?_⟩
  walk_at "w"
  have k02 := k1.trans k2
  intro q0 hq0
  walk_at "w"
  intro q1 hq1
  walk_at "w"
  intro q2 hq2
  walk_at "w"
  intro qs hqs
  walk_at "w"
  refine s_cut (fun σ' H' => ∃ q0 q1 q2 q3 qs, σ' = [some (.ref b), some (.int n), some (.int way), some (.int trn), some (.ref qs), none, none, none, none] ∧ Kp [] H2 H' ∧ H' qs = some (.lst [.ref q0, .ref q1, .ref q2, .ref q3]) ∧ H' q0 = some (.lst (([-2, -3, 2, -1, -4] : List Int).map V.int)) ∧ H' q1 = some (.lst (([-1, -3, -2, 1, 3] : List Int).map V.int)) ∧ H' q2 = some (.lst (([-1, -2, 1, -3, 2, 3] : List Int).map V.int)) ∧ H' q3 = some (.lst (([-2, -3, 2, -1, -6, -5, 6, -7, -4] : List Int).map V.int)) ∧ q0 ≠ b ∧ q1 ≠ b ∧ q2 ≠ b ∧ q3 ≠ b) ?_ ?_
  · walk_at "w"
    intro q3 hq3
    walk_at "w"
    exact ⟨q0, q1, q2, q3, qs, rfl, (((((Kp.refl.new hq0).new hq1).new hq2).new hqs).new hq3).own (upd_nil (upd_nil (upd_nil hqs))), upd_same, by walk_at "hp", by walk_at "hp", by walk_at "hp", by walk_at "hp", B2.ne hq0, B2.ne (upd_nil hq1), B2.ne (upd_nil (upd_nil hq2)), B2.ne (upd_nil (upd_nil (upd_nil (upd_nil hq3))))⟩
  clear hq0 hq1 hq2 hqs
  clear q0 q1 q2 qs
  rintro σ' H3 ⟨q0, q1, q2, q3, qs, rfl, k3, hqs, hq0, hq1, hq2, hq3, nb0, nb1, nb2, nb3⟩
  have k03 := k02.trans0 k3
  have B3 := B2.kp k3
  walk_at "w"
  refine w_ite (fun c => ?_) (fun c => ?_)
  · walk_at "w"
    intro d hd
    exact k d [] _ (bag_free B3 k03 hd) (k03.new hd) (B3.new hd) upd_same (by simp) (good_nil n)
  walk_at "w"
  refine w_ite (fun c2 => ?_) (fun c2 => ?_)
  · walk_at "w"
    intro d hd
    exact k d [] _ (bag_free B3 k03 hd) (k03.new hd) (B3.new hd) upd_same (by simp) (good_nil n)
  walk_at "w"
  refine s_cut (fun σ' H' => H' = H3 ∧ ∃ (r : Addr) (row : List Int), σ' = [some (.ref b), some (.int n), some (.int way), some (.int trn), some (.ref qs), some (.int (4 + 3 * (way / 3))), some (.ref r), none, none] ∧ H3 r = some (.lst (row.map V.int)) ∧ row.length ≤ 9 ∧ goodL (4 + 3 * (way / 3)) row ∧ r ≠ b) ?_ ?_
  · obtain rfl | rfl | rfl | rfl : way = 0 ∨ way = 1 ∨ way = 2 ∨ way = 3 := by omega
    · walk_at "w"
      exact ⟨rfl, q0, _, rfl, hq0, by decide, good_of_chk (by decide +kernel), nb0⟩
    · walk_at "w"
      exact ⟨rfl, q1, _, rfl, hq1, by decide, good_of_chk (by decide +kernel), nb1⟩
    · walk_at "w"
      exact ⟨rfl, q2, _, rfl, hq2, by decide, good_of_chk (by decide +kernel), nb2⟩
    · walk_at "w"
      exact ⟨rfl, q3, _, rfl, hq3, by decide, good_of_chk (by decide +kernel), nb3⟩
  rintro σ' H4 ⟨e, r, row, rfl, hr1, hrl, hg, nb⟩
  subst e
  clear hqs hq0 hq1 hq2 hq3
  have hm : 4 ≤ 4 + 3 * (way / 3) ∧ 4 + 3 * (way / 3) ≤ 7 := by omega
  generalize 4 + 3 * (way / 3) = m at hg c2 hm ⊢
  refine s_cut (fun σ' H' => Kp [] H4 H' ∧ ∃ (r : Addr) (row : List Int) (z : Option V), σ' = [some (.ref b), some (.int n), some (.int way), some (.int trn), some (.ref qs), some (.int m), some (.ref r), z, none] ∧ H' r = some (.lst (row.map V.int)) ∧ row.length ≤ 9 ∧ goodL m row ∧ r ≠ b) ?_ ?_
  · walk_at "w"
    refine w_ite (fun c => ?_) (fun c => ?_)
    · walk_at "w"
      refine w_lcM (f := V.int) (f' := V.int) (fun o => some (if o > 0 then m + 1 - o else -m - 1 - o)) hr1 (by rw [sizeLine_eq]; omega) ?_ ?_
      · intro D i u acc H' hD hu hk hA hlen
        walk_at "w"
        refine ⟨rfl, ?_⟩
        walk_at "w"
        refine w_ite (fun c => ?_) (fun c => ?_)
        · walk_at "w"
          exact w_keep hk hA hlen hD (by rw [if_pos c])
        · walk_at "w"
          exact w_keep hk hA hlen hD (by rw [if_neg c])
      · intro D H' hD hk hA
        rw [fm_some] at hA
        walk_at "w"
        exact ⟨hk, D, _, _, rfl, hA, by rw [List.length_map]; exact hrl, good_turn hg, B3.ne hD⟩
    · walk_at "w"
      exact ⟨Kp.refl, r, row, _, rfl, hr1, hrl, hg, nb⟩
  rintro σ' H5 ⟨k5, r, row, z, rfl, hr5, hrl, hg, nb5⟩
  have B5 := B3.kp k5
  have k05 := k03.trans0 k5
  walk_at "w"
  refine ⟨b, _, rfl, B5, by omega, by omega, fun low H6 l0 l1 B6 k6 => ?_⟩
  have rb : r ∉ [b] := by simpa using nb5
  have hr6 := k6 r _ hr5 rb
  walk_at "w"
  refine w_lcM (f := V.int) (f' := V.int) (fun o => some (if o > 0 then o + low else o - low)) hr6 (by rw [sizeLine_eq]; omega) ?_ ?_
  · intro D i u acc H' hD hu hk hA hlen
    walk_at "w"
    refine ⟨rfl, ?_⟩
    walk_at "w"
    refine w_ite (fun c => ?_) (fun c => ?_)
    · walk_at "w"
      exact w_keep hk hA hlen hD (by rw [if_pos c])
    · walk_at "w"
      exact w_keep hk hA hlen hD (by rw [if_neg c])
  · intro D H' hD hk hA
    rw [fm_some] at hA
    exact k D _ H' (bag_free B5 k05 (k6.freeM hD (by simpa using B6.live))) ((k05.trans k6).trans0 hk) (B6.kp hk) hA (by rw [List.length_map]; exact hrl) (good_shift hg l0 (by omega))

/-! ### a legal log -/
theorem okTo_app {n : Int} {t : List Int × List Int × List Bool} {us : List Int} {o : Int} (h : okTo n t us us.length) (ho : OkAt n (runS t us) o) : okTo n t (us ++ [o]) (us ++ [o]).length := by
  intro j p hj hp
  rw [List.length_append, List.length_singleton] at hj
  by_cases z : j < us.length
  · rw [List.getElem?_append_left z] at hp
    rw [List.take_append_of_le_length (by omega)]
    exact h j p z hp
  · obtain rfl : j = us.length := by omega
    rw [List.getElem?_append_right (by omega), Nat.sub_self] at hp
    cases hp
    rw [List.take_left]
    exact ho
/-- the log so far at d, its flags at q -/
structure LogI (n : Int) (b d q : Addr) (H0 : Hp) (us : List Int) (H : Hp) : Prop where
  k : Kp [b] H0 H
  B : Bag H b
  hd : H d = some (.lst (us.map V.int))
  hq : H q = some (.lst (((runS (s0 n) us).2.2.take (n + 1).toNat).map V.bl))
  ok : okTo n (s0 n) us us.length
theorem run_len {n : Int} (us : List Int) : (runS (s0 n) us).2.2.length = (n + 2).toNat := by
  have := runF_len (t := s0 n) us.length us
  rw [List.take_length] at this
  rw [this]
  simp [s0]
theorem flg_len {n : Int} (n0 : 0 ≤ n) (us : List Int) : ((runS (s0 n) us).2.2.take (n + 1).toNat).length = (n + 1).toNat := by
  rw [List.length_take, run_len]; omega
theorem LogI.draw {n : Int} {b d q : Addr} {H0 H H' : Hp} {us : List Int} (h : LogI n b d q H0 us H) (k : Kp [b] H H') (B : Bag H' b) (db : d ≠ b) (qb : q ≠ b) : LogI n b d q H0 us H' :=
  ⟨h.k.trans k, B, k d _ h.hd (by simpa using db), k q _ h.hq (by simpa using qb), h.ok⟩
theorem LogI.kp0 {n : Int} {b d q : Addr} {H0 H H' : Hp} {us : List Int} (h : LogI n b d q H0 us H) (k : Kp [] H H') : LogI n b d q H0 us H' :=
  ⟨h.k.trans0 k, h.B.kp k, k.at0 h.hd, k.at0 h.hq, h.ok⟩
theorem LogI.add {n : Int} {b d q : Addr} {H0 H : Hp} {us : List Int} (h : LogI n b d q H0 us H) (hd0 : H0 d = none) (hq0 : H0 q = none) (db : d ≠ b) (qb : q ≠ b) (dq : d ≠ q) {o : Int} (ho : OkAt n (runS (s0 n) us) o) :
    LogI n b d q H0 (us ++ [o]) (upd (upd H d (.lst ((us ++ [o]).map V.int))) q (.lst ((((runS (s0 n) us).2.2.take (n + 1).toNat).set o.natAbs (decide (o < 0))).map V.bl))) :=
  ⟨(h.k.own hd0).own hq0, (h.B.mut db).mut qb, upd_get dq upd_same, by
    rw [upd_same, F_snoc]
    unfold apF
    rw [List.take_set], okTo_app h.ok ho⟩
def sp__law_log (a : AD) : Sp := fun vs H Q _ => ∃ (b : Addr) (n : Int), vs = [.ref b, .int n] ∧ Bag H b ∧ 0 ≤ n ∧ n ≤ 60 ∧ ∀ (d : Addr) (us : List Int) (H' : Hp), H d = none → Kp [b] H H' → Bag H' b → H' d = some (.lst (us.map V.int)) → us.length ≤ 200 → okTo n (s0 n) us us.length → Q (.ref d) H'
theorem sc__law_log : FnScope ["_law_bag_here", "_law_size_here", "_law_deeds", "_law_node", "_law_gone", "_law_deed", "_law_width", "_law_low", "_law_count", "_law_turn", "_law_rest"] ["_law_bag_here", "_law_size_here"] (defScope s__law_log) := ⟨rfl, rfl, rfl, by decide +kernel, rfl, by decide +kernel, by decide +kernel⟩
theorem ok__law_log {P : Program} {w : World} {K : PySem.W.Frag} {mg : Str → Option Value} {base : Heap} {a : AD} (T : Txt P K mg a) (G__law_planted : FnA P w K mg base 3 a.f__law_planted ["_law_bag_here", "_law_size_here"] (sp__law_planted a)) (G__law_draw : FnA P w K mg base 2 a.f__law_draw ["_law_bag_here", "_law_many"] (sp__law_draw a)) : FnA P w K mg base 4 a.f__law_log ["_law_bag_here", "_law_size_here"] (sp__law_log a) := by
  obtain ⟨fd, F, b⟩ := T.F__law_log
  refine FnA.of F sc__law_log b (fun vs H Q E h => by first | (obtain ⟨rfl, _⟩ := h; rfl) | (obtain ⟨_, rfl, _⟩ := h; rfl) | (obtain ⟨_, _, rfl, _⟩ := h; rfl) | (obtain ⟨_, _, _, rfl, _⟩ := h; rfl) | (obtain ⟨_, _, _, _, rfl, _⟩ := h; rfl) | (obtain ⟨_, _, _, _, _, rfl, _⟩ := h; rfl) | (obtain ⟨_, _, _, _, _, _, rfl, _⟩ := h; rfl) | (obtain ⟨_, _, _, _, _, _, _, rfl, _⟩ := h; rfl) | (obtain ⟨_, _, _, _, _, _, _, _, rfl, _⟩ := h; rfl) | (obtain ⟨_, _, _, _, _, _, _, _, _, rfl, _⟩ := h; rfl) | (obtain ⟨_, _, _, _, _, _, _, _, _, _, rfl, _⟩ := h; rfl) | (obtain ⟨_, _, _, _, _, _, _, _, _, _, _, rfl, _⟩ := h; rfl) | (obtain ⟨_, _, _, _, _, _, _, _, _, _, _, _, rfl, _⟩ := h; rfl) | (obtain ⟨_, _, _, _, _, _, _, _, _, _, _, _, _, rfl, _⟩ := h; rfl) | (obtain ⟨_, _, _, _, _, _, _, _, _, _, _, _, _, _, rfl, _⟩ := h; rfl) | (obtain ⟨_, _, _, _, _, _, _, _, _, _, _, _, _, _, _, rfl, _⟩ := h; rfl) | (obtain ⟨_, _, _, _, _, _, _, _, _, _, _, _, _, _, _, _, rfl, _⟩ := h; rfl) | (obtain ⟨_, _, _, _, _, _, _, _, _, _, _, _, _, _, _, _, _, rfl, _⟩ := h; rfl) | (obtain ⟨_, _, _, _, _, _, _, _, _, _, _, _, _, _, _, _, _, _, rfl, _⟩ := h; rfl) | (obtain ⟨_, _, _, _, _, _, _, _, _, _, _, _, _, _, _, _, _, _, _, rfl, _⟩ := h; rfl) | (obtain ⟨_, _, _, _, _, _, _, _, _, _, _, _, _, _, _, _, _, _, _, _, rfl, _⟩ := h; rfl) | (obtain ⟨_, _, _, _, _, _, _, _, _, _, _, _, _, _, _, _, _, _, _, _, _, rfl, _⟩ := h; rfl) | (obtain ⟨_, _, _, _, _, _, _, _, _, _, _, _, _, _, _, _, _, _, _, _, _, _, rfl, _⟩ := h; rfl) | (obtain ⟨_, _, _, _, _, _, _, _, _, _, _, _, _, _, _, _, _, _, _, _, _, _, _, rfl, _⟩ := h; rfl)) (fun cdv A outer s H vs Q E hr tk pz h => ?_)
  have hu := hr.units
  have hrH := L2H.roomH_of hr
  obtain ⟨b, n, rfl, hB, n0, n1, k⟩ := h
  refine ⟨_, (pss_cons (ps_set (i := 2) sc__law_log.nd rfl (Or.inl rfl) (pe_callA G__law_planted (Room.mono hr (by decide)) T.n__law_planted tk (pa_cons (pv 0) (pa_cons (pv 1) pa_nil))))
      (pss_cons (ps_if (pt_cmpA (o_eq hu) (pv 1) pe_int (nomark _)) (pss_one (ps_ret (pv 2))) pss_nil)
      (pss_cut (ps_if (PW.pt (pw_and (pt_cmpA op_gt (pe_callB (b_len) rfl T.b_len (by decide +kernel) (pa_cons (pv 2) pa_nil)) pe_int (nomark _)) (pw_and1 (pt_cmpA (o_eq hu) (pe_callA G__law_draw (Room.mono hr (by decide)) T.n__law_draw tk (pa_cons (pv 0) (pa_cons pe_int pa_nil))) pe_int (nomark _))))) (pss_one (ps_ret (pv 2))) pss_nil)
      (pss_cons (ps_set (i := 4) sc__law_log.nd rfl (Or.inr rfl) (pe_lc (own := [("_law_node", 3)]) (g := (gName 3)) (tt := tYes) rfl sc__law_log.nd (pi_range1 rfl T.b_range (pa_cons (pe_op o_add (pv 1) pe_int) pa_nil)) (blkOk_by (own := [("_law_node", 3)]) (N := ["_law_bag_here", "_law_size_here", "_law_deeds", "_law_node", "_law_gone", "_law_deed", "_law_width", "_law_low", "_law_count", "_law_turn", "_law_rest"]) (sc := defScope s__law_log) (by decide +kernel)) (fun _ _ _ _ _ => (pg_name (i := 3) sc__law_log.nd rfl (Or.inl rfl))) (fun _ _ _ _ _ => pts_nil) (fun _ _ _ _ _ => pe_bl)))
      (pss_cons (ps_for pz rfl (pi_list (pv 2)) (pg_name (i := 5) sc__law_log.nd rfl (Or.inl rfl))
      (pss_one (ps_asg (pe_cmpR op_lt (pv 5) pe_int (nomark _)) (pg_sub (pv 4) (pe_callB (b_abs) rfl T.b_abs (by decide +kernel) (pa_cons (pv 5) pa_nil)) set_list))))
      (pss_cons (ps_set (i := 6) sc__law_log.nd rfl (Or.inl rfl) (pe_op o_add pe_int (pe_callA G__law_draw (Room.mono hr (by decide)) T.n__law_draw tk (pa_cons (pv 0) (pa_cons (pe_callB (b_min2 rfl) rfl T.b_min (by decide +kernel) (pa_cons (pv 1) (pa_cons pe_int pa_nil))) pa_nil)))))
      (pss_cons (ps_set (i := 7) sc__law_log.nd rfl (Or.inl rfl) (pe_callA G__law_draw (Room.mono hr (by decide)) T.n__law_draw tk (pa_cons (pv 0) (pa_cons (pe_op o_add (pe_op op_sub (pv 1) (pv 6)) pe_int) pa_nil))))
      (pss_cons (ps_set (i := 8) sc__law_log.nd rfl (Or.inl rfl) (pe_callA G__law_draw (Room.mono hr (by decide)) T.n__law_draw tk (pa_cons (pv 0) (pa_cons pe_int pa_nil))))
      (pss_cut (ps_if (pt_cmpA (o_eq hu) (pe_callA G__law_draw (Room.mono hr (by decide)) T.n__law_draw tk (pa_cons (pv 0) (pa_cons pe_int pa_nil))) pe_int (nomark _)) (pss_one (ps_set (i := 8) sc__law_log.nd rfl (Or.inl rfl) (pe_op o_add (pv 8) (pe_callA G__law_draw (Room.mono hr (by decide)) T.n__law_draw tk (pa_cons (pv 0) (pa_cons pe_int pa_nil)))))) pss_nil)
      (pss_cons (ps_for pz rfl (pi_range1 rfl T.b_range (pa_cons (pv 8) pa_nil)) (pg_name (i := 9) sc__law_log.nd rfl (Or.inl rfl))
      (pss_cons (ps_set (i := 3) sc__law_log.nd rfl (Or.inl rfl) (pe_op o_add (pe_op o_add (pv 7) pe_int) (pe_callA G__law_draw (Room.mono hr (by decide)) T.n__law_draw tk (pa_cons (pv 0) (pa_cons (pv 6) pa_nil)))))
      (pss_cut (ps_if (pt_cmpA (o_eq hu) (pe_callA G__law_draw (Room.mono hr (by decide)) T.n__law_draw tk (pa_cons (pv 0) (pa_cons pe_int pa_nil))) pe_int (nomark _)) (pss_one (ps_set (i := 3) sc__law_log.nd rfl (Or.inl rfl) (pe_op o_add pe_int (pe_callA G__law_draw (Room.mono hr (by decide)) T.n__law_draw tk (pa_cons (pv 0) (pa_cons (pv 1) pa_nil)))))) pss_nil)
      (pss_cons (ps_set (i := 5) sc__law_log.nd rfl (Or.inl rfl) (pe_un un_neg (pv 3)))
      (pss_cut (ps_if (pt_tru (pe_ix ix_seq (pv 4) (pv 3) (fun _ _ => rfl))) (pss_one (ps_set (i := 5) sc__law_log.nd rfl (Or.inl rfl) (pv 3))) pss_nil)
      (pss_cons (ps_expr (pe_bm PySem.F.plainAttrs_list PySem.F.slot_list_append PySem.F.type_list_append mt_append (pv 2) (pa_cons (pv 5) pa_nil)))
      (pss_one (ps_asg (pe_cmpR op_lt (pv 5) pe_int (nomark _)) (pg_sub (pv 4) (pv 3) set_list)))))))))
      (pss_cons (ps_if (pt_cmpA (o_eq hu) (pe_callA G__law_draw (Room.mono hr (by decide)) T.n__law_draw tk (pa_cons (pv 0) (pa_cons pe_int pa_nil))) pe_int (nomark _)) (pss_one (ps_ret (pv 2))) pss_nil)
      (pss_cons (ps_for pz rfl (pi_range1 rfl T.b_range (pa_cons (pv 1) pa_nil)) (pg_name (i := 9) sc__law_log.nd rfl (Or.inl rfl))
      (pss_cons (ps_setLc (i := 10) (own := [("_law_node", 3)]) (g := (gName 3)) rfl sc__law_log.nd rfl rfl (sw_true rfl rfl rfl (by decide +kernel)) (pi_range2 rfl T.b_range (pa_cons pe_int (pa_cons (pe_op o_add (pv 1) pe_int) pa_nil))) (blkOk_by (own := [("_law_node", 3)]) (N := ["_law_bag_here", "_law_size_here", "_law_deeds", "_law_node", "_law_gone", "_law_deed", "_law_width", "_law_low", "_law_count", "_law_turn", "_law_rest"]) (sc := defScope s__law_log) (by decide +kernel)) (fun _ _ _ _ _ => (pg_name (i := 3) sc__law_log.nd rfl (Or.inl rfl))) (fun _ _ _ _ _ => (pts_one (show PT _ _ (cTru K _) from (pt_tru (pe_ix (show IxR _ (rIx K) from ix_seq) (pv 4) (pv 3) (fun _ _ => rfl)))))) (fun _ _ _ _ _ => (pv 3)))
      (pss_one (ps_if (pt_cmpA op_gt (pe_callB (b_len) rfl T.b_len (by decide +kernel) (pa_cons (pv 10) pa_nil)) pe_int (nomark _)) (pss_cons (ps_set (i := 3) sc__law_log.nd rfl (Or.inl rfl) (pe_ix ix_seq (pv 10) (pe_callA G__law_draw (Room.mono hr (by decide)) T.n__law_draw tk (pa_cons (pv 0) (pa_cons (pe_callB (b_len) rfl T.b_len (by decide +kernel) (pa_cons (pv 10) pa_nil)) pa_nil))) (fun _ _ => rfl)))
      (pss_cons (ps_expr (pe_bm PySem.F.plainAttrs_list PySem.F.slot_list_append PySem.F.type_list_append mt_append (pv 2) (pa_cons (pv 3) pa_nil)))
      (pss_one (ps_asg pe_bl (pg_sub (pv 4) (pv 3) set_list))))) pss_nil))))
      (pss_one (ps_ret (pv 2))))))))))))))), ?_⟩
  show (_ : Ends → L2.St → Hp → Prop) _ [some _, some _, none, none, none, none, none, none, none, none, none] _
  try dsimp only [L2H.cxH, cxOf]
  walk_at "w"
  refine ⟨b, n, rfl, hB, n0, n1, fun d us H1 hd k1 B1 hd1 hul hg => ?_⟩
  have hok := good_ok hg
  walk_at "w"
  refine w_ite (fun c => ?_) (fun c => ?_)
  · walk_at "w"
    exact k d us H1 hd k1 B1 hd1 (by omega) hok
  have db : d ≠ b := hB.ne hd
  have dbm : d ∉ [b] := by simpa using db
  walk_at "w"
  refine s_cut (fun σ' H' => Kp [b] H1 H' ∧ Bag H' b ∧ σ' = [some (.ref b), some (.int n), some (.ref d), none, none, none, none, none, none, none, none]) ?_ ?_
  · walk_at "w"
    refine w_ite (fun c1 => ?_) (fun c1 => ?_)
    · walk_at "w"
      refine ⟨b, _, rfl, B1, by omega, by omega, fun x H2 _ _ B2 k2 => ?_⟩
      walk_at "w"
      refine w_ite (fun c2 => ?_) (fun c2 => ?_)
      · walk_at "w"
        exact k d us H2 hd (k1.trans k2) B2 (k2 d _ hd1 dbm) (by omega) hok
      · walk_at "w"
        exact ⟨k2, B2, rfl⟩
    · walk_at "w"
      exact ⟨Kp.refl, B1, rfl⟩
  rintro σ' H2 ⟨k2, B2, rfl⟩
  have hd2 := k2 d _ hd1 dbm
  have k02 := k1.trans k2
  clear k1 k2 B1 hd1
  walk_at "w"
  refine w_lcR1 (f' := V.bl) (fun i : Nat => some false) (n := n + 1) (by omega) (by omega) (by rw [sizeLine_eq]; omega) ?_ ?_
  · intro D i acc H' hD hi hk hA hlen
    walk_at "w"
    refine ⟨rfl, ?_⟩
    walk_at "w"
    exact w_keep hk hA hlen hD rfl
  intro q H3 hq k3 hq3
  rw [fm_rep] at hq3
  have dq : d ≠ q := ne_of_none hd2 hq
  have qb : q ≠ b := B2.ne hq
  have B3 := B2.kp k3
  have hd3 := k3.at0 hd2
  have k03 := k02.trans0 k3
  have hqH : H q = none := k02.freeM hq (by simpa using B2.live)
  have hq3' : H3 q = some (.lst (((runS (s0 n) (us.take 0)).2.2.take (n + 1).toNat).map V.bl)) := by
    rw [hq3, List.take_zero]
    show some (HO.lst ((List.replicate (n + 1).toNat false).map V.bl)) = some (HO.lst (((List.replicate (n + 2).toNat false).take (n + 1).toNat).map V.bl))
    rw [List.take_replicate, Nat.min_eq_left (by omega)]
  walk_at "w"
  refine w_forM (us := us) (f := V.int) (p := d) hd3 (fun i σ' H' => (∃ z, σ' = [some (.ref b), some (.int n), some (.ref d), none, some (.ref q), z, none, none, none, none, none]) ∧ Kp [b] H H' ∧ Bag H' b ∧ H' d = some (.lst (us.map V.int)) ∧ H' q = some (.lst (((runS (s0 n) (us.take i)).2.2.take (n + 1).toNat).map V.bl))) ⟨⟨_, rfl⟩, k03, B3, hd3, hq3'⟩ (fun i σ' H' _ h => h.2.2.2.1) ?_ ?_
  · rintro i u σ' H4 hu ⟨⟨z, rfl⟩, k4, B4, hd4, hq4⟩
    have hop := (hg i u hu).1.2
    have hln := flg_len n0 (us.take i)
    walk_at "w"
    refine ⟨⟨_, rfl⟩, k4.own hqH, B4.mut qb, upd_get dq hd4, ?_⟩
    rw [upd_same, take_snoc hu, F_snoc]
    unfold apF
    rw [List.take_set, Int.toNat_natCast]
  rintro σ' H4 ⟨⟨z, rfl⟩, k4, B4, hd4, hq4⟩
  rw [List.take_length] at hq4
  have I4 : LogI n b d q H us H4 := ⟨k4, B4, hd4, hq4, hok⟩
  clear k4 B4 hd4 hq4 hd3 hq3 hq3' B3 k03 k02 B2 hd2 hok hg k3 hq
  walk_at "w"
  refine ⟨b, _, rfl, I4.B, by omega, by omega, fun x1 H5 x10 x11 B5 k5 => ?_⟩
  have I5 := I4.draw k5 B5 db qb
  walk_at "w"
  refine ⟨b, _, rfl, I5.B, by omega, by omega, fun x2 H6 x20 x21 B6 k6 => ?_⟩
  have I6 := I5.draw k6 B6 db qb
  walk_at "w"
  refine ⟨b, _, rfl, I6.B, by omega, by omega, fun x3 H7 x30 x31 B7 k7 => ?_⟩
  have I7 := I6.draw k7 B7 db qb
  clear I4 I5 I6 B5 B6 B7 k5 k6 k7
  refine s_cut (fun σ' H' => LogI n b d q H us H' ∧ ∃ z5 : Option V, ∃ cnt : Int, 0 ≤ cnt ∧ cnt ≤ 38 ∧ σ' = [some (.ref b), some (.int n), some (.ref d), none, some (.ref q), z5, some (.int (1 + x1)), some (.int x2), some (.int cnt), none, none]) ?_ ?_
  · walk_at "w"
    refine ⟨b, _, rfl, I7.B, by omega, by omega, fun x4 H8 _ _ B8 k8 => ?_⟩
    have I8 := I7.draw k8 B8 db qb
    walk_at "w"
    refine w_ite (fun c4 => ?_) (fun c4 => ?_)
    · walk_at "w"
      refine ⟨b, _, rfl, I8.B, by omega, by omega, fun x5 H9 x50 x51 B9 k9 => ?_⟩
      have I9 := I8.draw k9 B9 db qb
      walk_at "w"
      exact ⟨I9, _, x3 + x5, by omega, by omega, rfl⟩
    · walk_at "w"
      exact ⟨I8, _, x3, by omega, by omega, rfl⟩
  rintro σ' H8 ⟨I8, z5, cnt, c0, c1, rfl⟩
  clear I7
  walk_at "w"
  refine w_rng1 (n := cnt) (by omega) (by omega) (fun i σ' H' => ∃ (us : List Int) (z3 z5 z9 : Option V), σ' = [some (.ref b), some (.int n), some (.ref d), z3, some (.ref q), z5, some (.int (1 + x1)), some (.int x2), some (.int cnt), z9, none] ∧ LogI n b d q H us H' ∧ us.length ≤ 9 + i) ⟨us, _, _, _, rfl, I8, by omega⟩ ?_ ?_
  · rintro i σ' H9 hi ⟨us, z3, z5, z9, rfl, I9, hl9⟩
    walk_at "w"
    refine ⟨b, _, rfl, I9.B, by omega, by omega, fun x4 H10 x40 x41 B10 k10 => ?_⟩
    have I10 := I9.draw k10 B10 db qb
    walk_at "w"
    refine s_cut (fun σ' H' => LogI n b d q H us H' ∧ ∃ nd : Int, 1 ≤ nd ∧ nd ≤ n ∧ σ' = [some (.ref b), some (.int n), some (.ref d), some (.int nd), some (.ref q), z5, some (.int (1 + x1)), some (.int x2), some (.int cnt), some (.int (i : Int)), none]) ?_ ?_
    · walk_at "w"
      refine ⟨b, _, rfl, I10.B, by omega, by omega, fun x5 H11 _ _ B11 k11 => ?_⟩
      have I11 := I10.draw k11 B11 db qb
      walk_at "w"
      refine w_ite (fun c5 => ?_) (fun c5 => ?_)
      · walk_at "w"
        refine ⟨b, _, rfl, I11.B, by omega, by omega, fun x6 H12 x60 x61 B12 k12 => ?_⟩
        have I12 := I11.draw k12 B12 db qb
        walk_at "w"
        exact ⟨I12, 1 + x6, by omega, by omega, rfl⟩
      · walk_at "w"
        exact ⟨I11, x2 + 1 + x4, by omega, by omega, rfl⟩
    rintro σ' H11 ⟨I11, nd, nd0, nd1, rfl⟩
    have hq11 := I11.hq
    have hd11 := I11.hd
    have hln := flg_len n0 us
    clear I9 I10 B10 k10
    walk_at "w"
    refine s_cut (fun σ' H' => H' = H11 ∧ ∃ o : Int, IsOp n o ∧ OkAt n (runS (s0 n) us) o ∧ σ' = [some (.ref b), some (.int n), some (.ref d), some (.int nd), some (.ref q), some (.int o), some (.int (1 + x1)), some (.int x2), some (.int cnt), some (.int (i : Int)), none] ∧ (o.natAbs : Int) = nd) ?_ ?_
    · walk_at "w"
      rw [getD_take (by omega)]
      refine w_iteb (fun c => ?_) (fun c => ?_)
      · walk_at "w"
        refine ⟨rfl, nd, ⟨by omega, by omega⟩, ⟨⟨by omega, by omega⟩, ?_⟩, rfl, by omega⟩
        rw [show nd.natAbs = nd.toNat by omega, c, show decide (nd < 0) = false by simp; omega]
        decide
      · walk_at "w"
        refine ⟨rfl, -nd, ⟨by omega, by omega⟩, ⟨⟨by omega, by omega⟩, ?_⟩, rfl, by omega⟩
        rw [show (-nd).natAbs = nd.toNat by omega, c, show decide (-nd < 0) = true by simp; omega]
        decide
    rintro σ' H12 ⟨e, o, hop, ho, rfl, hnd⟩
    subst e
    subst hnd
    walk_at "w"
    have I13 := I11.add hd hqH db qb dq ho
    exact ⟨us ++ [o], _, _, _, rfl, by simpa using I13, by rw [List.length_append, List.length_singleton]; omega⟩
  rintro σ' H9 ⟨us, z3, z5, z9, rfl, I9, hl9⟩
  clear I8
  walk_at "w"
  refine ⟨b, _, rfl, I9.B, by omega, by omega, fun x4 H10 x40 x41 B10 k10 => ?_⟩
  have I10 := I9.draw k10 B10 db qb
  walk_at "w"
  refine w_ite (fun c4 => ?_) (fun c4 => ?_)
  · walk_at "w"
    exact k d us H10 hd I10.k I10.B I10.hd (by omega) I10.ok
  walk_at "w"
  refine w_rng1 (n := n) (by omega) (by omega) (fun i σ' H' => ∃ (us : List Int) (z3 z5 z9 z10 : Option V), σ' = [some (.ref b), some (.int n), some (.ref d), z3, some (.ref q), z5, some (.int (1 + x1)), some (.int x2), some (.int cnt), z9, z10] ∧ LogI n b d q H us H' ∧ us.length ≤ 9 + 38 + i) ⟨us, _, _, _, _, rfl, I10, by omega⟩ ?_ ?_
  · rintro i σ' H11 hi ⟨us, z3, z5, z9, z10, rfl, I11, hl11⟩
    have hq11 := I11.hq
    have hln := flg_len n0 us
    walk_at "w"
    refine w_lcR2 (f' := V.int) (fun j : Nat => if (runS (s0 n) us).2.2.getD (j + 1) default = true then some (1 + (j : Int)) else none) (lo := 1) (n := n + 1) (by omega) (by omega) (by omega) (by omega) (by rw [sizeLine_eq]; omega) ?_ ?_
    · intro D j acc H' hD hj hk hA hlen
      have hq5 := hk.at0 hq11
      walk_at "w"
      refine ⟨rfl, ?_⟩
      walk_at "w"
      rw [show (1 + (j : Int)).toNat = j + 1 by omega, getD_take (by omega)]
      refine w_iteb (fun c => ?_) (fun c => ?_)
      · walk_at "w"
        exact w_keep hk hA hlen hD (by rw [if_pos c])
      · walk_at "w"
        exact w_drop hk hA (by rw [if_neg (by rw [c]; exact Bool.false_ne_true)])
    intro rs H12 hrs k12 hrs12
    have hm : ∀ u ∈ ((List.range (n + 1 - 1).toNat).filterMap fun j : Nat => if (runS (s0 n) us).2.2.getD (j + 1) default = true then some (1 + (j : Int)) else none), OkAt n (runS (s0 n) us) u ∧ 1 ≤ u ∧ u ≤ n := by
      intro u hu
      obtain ⟨j, hj, e⟩ := List.mem_filterMap.mp hu
      have hj := List.mem_range.mp hj
      by_cases c : (runS (s0 n) us).2.2.getD (j + 1) default = true
      · rw [if_pos c] at e
        cases e
        refine ⟨⟨⟨by omega, by omega⟩, ?_⟩, by omega, by omega⟩
        rw [show (1 + (j : Int)).natAbs = j + 1 by omega, c, show decide (1 + (j : Int) < 0) = false by simp; omega]
        decide
      · rw [if_neg c] at e; cases e
    have hrl : ((List.range (n + 1 - 1).toNat).filterMap fun j : Nat => if (runS (s0 n) us).2.2.getD (j + 1) default = true then some (1 + (j : Int)) else none).length ≤ 60 := by
      refine Nat.le_trans (List.length_filterMap_le _ _) ?_
      rw [List.length_range]; omega
    generalize ((List.range (n + 1 - 1).toNat).filterMap fun j : Nat => if (runS (s0 n) us).2.2.getD (j + 1) default = true then some (1 + (j : Int)) else none) = vs at hrs12 hm hrl
    have I12 := I11.kp0 k12
    have rsb : rs ≠ b := I11.B.ne hrs
    walk_at "w"
    refine w_ite (fun c5 => ?_) (fun c5 => ?_)
    · walk_at "w"
      refine ⟨b, _, rfl, I12.B, by omega, by omega, fun x6 H13 x60 x61 B13 k13 => ?_⟩
      have I13 := I12.draw k13 B13 db qb
      have hrs13 := k13 rs _ hrs12 (by simpa using rsb)
      have hq13 := I13.hq
      have hd13 := I13.hd
      have hx := hm (vs.getD x6.toNat default) (by
        rw [List.getD_eq_getElem?_getD, List.getElem?_eq_getElem (by omega)]
        exact List.getElem_mem _)
      walk_at "w"
      generalize vs.getD x6.toNat default = u at hx ⊢
      obtain ⟨ho, u1, u2⟩ := hx
      walk_at "w"
      have I14 := I13.add hd hqH db qb dq ho
      rw [show u.natAbs = u.toNat by omega, show decide (u < 0) = false by simp; omega] at I14
      exact ⟨us ++ [u], _, _, _, _, rfl, I14, by rw [List.length_append, List.length_singleton]; omega⟩
    · walk_at "w"
      exact ⟨us, _, _, _, _, rfl, I12, by omega⟩
  rintro σ' H11 ⟨us, z3, z5, z9, z10, rfl, I11, hl11⟩
  walk_at "w"
  exact k d us H11 hd I11.k I11.B I11.hd (by omega) I11.ok

/-! ### faults -/
def BadIx (n : Int) (log : List Int) (i : Nat) (o : Int) : Prop := log[i]? = some o ∧ okTo n (s0 n) log i ∧ ¬OkAt n (runS (s0 n) (log.take i)) o
theorem badIx_or (n : Int) (log : List Int) : okTo n (s0 n) log log.length ∨ ∃ i o, BadIx n log i o := by
  have key : ∀ k, k ≤ log.length → okTo n (s0 n) log k ∨ ∃ i o, BadIx n log i o := by
    intro k
    induction k with
    | zero => intro _; exact .inl fun j o hj => by omega
    | succ k ih =>
      intro hk
      rcases ih (by omega) with h | h
      · have hu : log[k]? = some log[k] := List.getElem?_eq_getElem (by omega)
        rcases Classical.em (OkAt n (runS (s0 n) (log.take k)) log[k]) with c | c
        · refine .inl fun j o hj ho => ?_
          by_cases z : j < k
          · exact h j o z ho
          · obtain rfl : j = k := by omega
            rw [hu] at ho
            cases ho
            exact c
        · exact .inr ⟨k, _, hu, h, c⟩
      · exact .inr h
  exact key _ (Nat.le_refl _)
theorem badIx_un {n : Int} {log : List Int} {i j : Nat} {o p : Int} (h1 : BadIx n log i o) (h2 : BadIx n log j p) : i = j ∧ o = p := by
  obtain ⟨a1, b1, c1⟩ := h1
  obtain ⟨a2, b2, c2⟩ := h2
  have e : i = j := by
    rcases Nat.lt_trichotomy i j with h | h | h
    · exact absurd (b2 i o h a1) c1
    · exact h
    · exact absurd (b1 j p h a2) c2
  subst e
  rw [a1] at a2
  cases a2
  exact ⟨rfl, rfl⟩
theorem badIx_no {n : Int} {log : List Int} {i : Nat} {o : Int} (h : okTo n (s0 n) log log.length) (b : BadIx n log i o) : False :=
  b.2.2 (h i o (List.getElem?_eq_some_iff.mp b.1).1 b.1)
/-- what a call is answered with -/
inductive Flt (n : Int) (log : List Int) (g : Int) : List V → Prop
  | size : ¬(0 ≤ n ∧ n ≤ 60) → Flt n log g [.str "size", .int n]
  | op (i : Nat) (o : Int) : 0 ≤ n → n ≤ 60 → BadIx n log i o → ¬IsOp n o → Flt n log g [.str "operation", .int o, .int (i : Int)]
  | ill (i : Nat) (o : Int) : 0 ≤ n → n ≤ 60 → BadIx n log i o → IsOp n o → Flt n log g [.str "illegal", .int o, .int (i : Int)]
  | gap : 0 ≤ n → n ≤ 60 → okTo n (s0 n) log log.length → ¬(0 ≤ g ∧ g ≤ n) → Flt n log g [.str "gap", .int g]
  | done : 0 ≤ n → n ≤ 60 → okTo n (s0 n) log log.length → 0 ≤ g → g ≤ n → Flt n log g [.str "done"]
theorem Flt.ex (n : Int) (log : List Int) (g : Int) : ∃ row, Flt n log g row := by
  by_cases c : 0 ≤ n ∧ n ≤ 60
  · rcases badIx_or n log with h | ⟨i, o, h⟩
    · by_cases c2 : 0 ≤ g ∧ g ≤ n
      · exact ⟨_, .done c.1 c.2 h c2.1 c2.2⟩
      · exact ⟨_, .gap c.1 c.2 h c2⟩
    · by_cases c2 : IsOp n o
      · exact ⟨_, .ill i o c.1 c.2 h c2⟩
      · exact ⟨_, .op i o c.1 c.2 h c2⟩
  · exact ⟨_, .size c⟩
theorem Flt.un {n : Int} {log : List Int} {g : Int} {r1 r2 : List V} (h1 : Flt n log g r1) (h2 : Flt n log g r2) : r1 = r2 := by
  cases h1 with
  | size a => cases h2 with
    | size => rfl
    | op _ _ b c => exact absurd ⟨b, c⟩ a
    | ill _ _ b c => exact absurd ⟨b, c⟩ a
    | gap b c => exact absurd ⟨b, c⟩ a
    | done b c => exact absurd ⟨b, c⟩ a
  | op i o a b h x => cases h2 with
    | size c => exact absurd ⟨a, b⟩ c
    | op j p _ _ h' y => obtain ⟨rfl, rfl⟩ := badIx_un h h'; rfl
    | ill j p _ _ h' y => obtain ⟨rfl, rfl⟩ := badIx_un h h'; exact absurd y x
    | gap _ _ k => exact (badIx_no k h).elim
    | done _ _ k => exact (badIx_no k h).elim
  | ill i o a b h x => cases h2 with
    | size c => exact absurd ⟨a, b⟩ c
    | op j p _ _ h' y => obtain ⟨rfl, rfl⟩ := badIx_un h h'; exact absurd x y
    | ill j p _ _ h' y => obtain ⟨rfl, rfl⟩ := badIx_un h h'; rfl
    | gap _ _ k => exact (badIx_no k h).elim
    | done _ _ k => exact (badIx_no k h).elim
  | gap a b h x => cases h2 with
    | size c => exact absurd ⟨a, b⟩ c
    | op j p _ _ h' y => exact (badIx_no h h').elim
    | ill j p _ _ h' y => exact (badIx_no h h').elim
    | gap _ _ k => rfl
    | done _ _ _ y z => exact absurd ⟨y, z⟩ x
  | done a b h x x2 => cases h2 with
    | size c => exact absurd ⟨a, b⟩ c
    | op j p _ _ h' y => exact (badIx_no h h').elim
    | ill j p _ _ h' y => exact (badIx_no h h').elim
    | gap _ _ _ y => exact absurd ⟨x, x2⟩ y
    | done => rfl
theorem Flt.ok {n : Int} {log : List Int} {g : Int} {r : List V} (h : Flt n log g r) : r.all okV = true := by
  have e1 : PyData.strOk ("size" : Str) = true := by decide +kernel
  have e2 : PyData.strOk ("operation" : Str) = true := by decide +kernel
  have e3 : PyData.strOk ("illegal" : Str) = true := by decide +kernel
  have e4 : PyData.strOk ("gap" : Str) = true := by decide +kernel
  have e5 : PyData.strOk ("done" : Str) = true := by decide +kernel
  cases h <;> simp [okV, e1, e2, e3, e4, e5]
def sp__law_fault (a : AD) : Sp := fun vs H Q _ => ∃ (n g : Int) (p : Addr) (log : List Int) (row : List V), vs = [.int n, .ref p, .int g] ∧ H p = some (.lst (log.map V.int)) ∧ log.length ≤ 1000 ∧ Flt n log g row ∧ ∀ t H', H t = none → Kp [] H H' → H' t = some (.tup row) → Q (.ref t) H'
theorem sc__law_fault : FnScope ["_law_size_here", "_law_deeds", "_law_place", "_law_node", "_law_gone", "_law_k"] ["_law_size_here", "_law_deeds", "_law_place"] (defScope s__law_fault) := ⟨rfl, rfl, rfl, by decide +kernel, rfl, by decide +kernel, by decide +kernel⟩
theorem ok__law_fault {P : Program} {w : World} {K : PySem.W.Frag} {mg : Str → Option Value} {base : Heap} {a : AD} (T : Txt P K mg a) : FnA P w K mg base 2 a.f__law_fault ["_law_size_here", "_law_deeds", "_law_place"] (sp__law_fault a) := by
  obtain ⟨fd, F, b⟩ := T.F__law_fault
  refine FnA.of F sc__law_fault b (fun vs H Q E h => by first | (obtain ⟨rfl, _⟩ := h; rfl) | (obtain ⟨_, rfl, _⟩ := h; rfl) | (obtain ⟨_, _, rfl, _⟩ := h; rfl) | (obtain ⟨_, _, _, rfl, _⟩ := h; rfl) | (obtain ⟨_, _, _, _, rfl, _⟩ := h; rfl) | (obtain ⟨_, _, _, _, _, rfl, _⟩ := h; rfl) | (obtain ⟨_, _, _, _, _, _, rfl, _⟩ := h; rfl) | (obtain ⟨_, _, _, _, _, _, _, rfl, _⟩ := h; rfl) | (obtain ⟨_, _, _, _, _, _, _, _, rfl, _⟩ := h; rfl) | (obtain ⟨_, _, _, _, _, _, _, _, _, rfl, _⟩ := h; rfl) | (obtain ⟨_, _, _, _, _, _, _, _, _, _, rfl, _⟩ := h; rfl) | (obtain ⟨_, _, _, _, _, _, _, _, _, _, _, rfl, _⟩ := h; rfl) | (obtain ⟨_, _, _, _, _, _, _, _, _, _, _, _, rfl, _⟩ := h; rfl) | (obtain ⟨_, _, _, _, _, _, _, _, _, _, _, _, _, rfl, _⟩ := h; rfl) | (obtain ⟨_, _, _, _, _, _, _, _, _, _, _, _, _, _, rfl, _⟩ := h; rfl) | (obtain ⟨_, _, _, _, _, _, _, _, _, _, _, _, _, _, _, rfl, _⟩ := h; rfl) | (obtain ⟨_, _, _, _, _, _, _, _, _, _, _, _, _, _, _, _, rfl, _⟩ := h; rfl) | (obtain ⟨_, _, _, _, _, _, _, _, _, _, _, _, _, _, _, _, _, rfl, _⟩ := h; rfl) | (obtain ⟨_, _, _, _, _, _, _, _, _, _, _, _, _, _, _, _, _, _, rfl, _⟩ := h; rfl) | (obtain ⟨_, _, _, _, _, _, _, _, _, _, _, _, _, _, _, _, _, _, _, rfl, _⟩ := h; rfl) | (obtain ⟨_, _, _, _, _, _, _, _, _, _, _, _, _, _, _, _, _, _, _, _, rfl, _⟩ := h; rfl) | (obtain ⟨_, _, _, _, _, _, _, _, _, _, _, _, _, _, _, _, _, _, _, _, _, rfl, _⟩ := h; rfl) | (obtain ⟨_, _, _, _, _, _, _, _, _, _, _, _, _, _, _, _, _, _, _, _, _, _, rfl, _⟩ := h; rfl) | (obtain ⟨_, _, _, _, _, _, _, _, _, _, _, _, _, _, _, _, _, _, _, _, _, _, _, rfl, _⟩ := h; rfl)) (fun cdv A outer s H vs Q E hr tk pz h => ?_)
  have hu := hr.units
  have hrH := L2H.roomH_of hr
  obtain ⟨n, g, p, log, row, rfl, hp, hlen, hF, k⟩ := h
  refine ⟨_, (pss_cons (ps_if (PW.pt (pw_or (pt_cmpA op_lt (pv 0) pe_int (nomark _)) (pw_or1 (pt_cmpA op_gt (pv 0) pe_int (nomark _))))) (pss_one (ps_ret (pe_tup (pa_cons pe_str (pa_cons (pv 0) pa_nil))))) pss_nil)
      (pss_cons (ps_setLc (i := 4) (own := [("_law_node", 3)]) (g := (gName 3)) (tt := tYes) rfl sc__law_fault.nd rfl rfl (sw_true rfl rfl rfl (by decide +kernel)) (pi_range1 rfl T.b_range (pa_cons (pe_op o_add (pv 0) pe_int) pa_nil)) (blkOk_by (own := [("_law_node", 3)]) (N := ["_law_size_here", "_law_deeds", "_law_place", "_law_node", "_law_gone", "_law_k"]) (sc := defScope s__law_fault) (by decide +kernel)) (fun _ _ _ _ _ => (pg_name (i := 3) sc__law_fault.nd rfl (Or.inl rfl))) (fun _ _ _ _ _ => pts_nil) (fun _ _ _ _ _ => pe_bl))
      (pss_cons (ps_for pz rfl (pi_range1 rfl T.b_range (pa_cons (pe_callB (b_len) rfl T.b_len (by decide +kernel) (pa_cons (pv 1) pa_nil)) pa_nil)) (pg_name (i := 5) sc__law_fault.nd rfl (Or.inl rfl))
      (pss_cons (ps_set (i := 3) sc__law_fault.nd rfl (Or.inl rfl) (pe_callB (b_abs) rfl T.b_abs (by decide +kernel) (pa_cons (pe_ix ix_seq (pv 1) (pv 5) (fun _ _ => rfl)) pa_nil)))
      (pss_cons (ps_if (PW.pt (pw_or (pt_cmpA (o_eq hu) (pv 3) pe_int (nomark _)) (pw_or1 (pt_cmpA op_gt (pv 3) (pv 0) (nomark _))))) (pss_one (ps_ret (pe_tup (pa_cons pe_str (pa_cons (pe_ix ix_seq (pv 1) (pv 5) (fun _ _ => rfl)) (pa_cons (pv 5) pa_nil)))))) pss_nil)
      (pss_cons (ps_if (pt_cmpA (o_eq hu) (pe_ix ix_seq (pv 4) (pv 3) (fun _ _ => rfl)) (pe_cmpR op_lt (pe_ix ix_seq (pv 1) (pv 5) (fun _ _ => rfl)) pe_int (nomark _)) (nomark _)) (pss_one (ps_ret (pe_tup (pa_cons pe_str (pa_cons (pe_ix ix_seq (pv 1) (pv 5) (fun _ _ => rfl)) (pa_cons (pv 5) pa_nil)))))) pss_nil)
      (pss_one (ps_asg (pe_cmpR op_lt (pe_ix ix_seq (pv 1) (pv 5) (fun _ _ => rfl)) pe_int (nomark _)) (pg_sub (pv 4) (pv 3) set_list)))))))
      (pss_cons (ps_if (PW.pt (pw_or (pt_cmpA op_lt (pv 2) pe_int (nomark _)) (pw_or1 (pt_cmpA op_gt (pv 2) (pv 0) (nomark _))))) (pss_one (ps_ret (pe_tup (pa_cons pe_str (pa_cons (pv 2) pa_nil))))) pss_nil)
      (pss_one (ps_ret (pe_tup (pa_cons pe_str pa_nil)))))))), ?_⟩
  show (_ : Ends → L2.St → Hp → Prop) _ [some _, some _, some _, none, none, none] _
  try dsimp only [L2H.cxH, cxOf]
  walk_at "w"
  refine w_ite (fun c1 => ?_) (fun c1 => ?_)
  · walk_at "w"
    intro t ht
    exact k t _ ht (Kp.refl.new ht) (by rw [hF.un (.size (fun z => by omega))]; exact upd_same)
  walk_at "w"
  refine w_ite (fun c2 => ?_) (fun c2 => ?_)
  · walk_at "w"
    intro t ht
    exact k t _ ht (Kp.refl.new ht) (by rw [hF.un (.size (fun z => by omega))]; exact upd_same)
  have n0 : 0 ≤ n := by omega
  have n1 : n ≤ 60 := by omega
  walk_at "w"
  refine w_lcR1 (f' := V.bl) (fun i : Nat => some false) (n := n + 1) (by omega) (by omega) (by rw [sizeLine_eq]; omega) ?_ ?_
  · intro D i acc H' hD hi hk hA hlen
    walk_at "w"
    refine ⟨rfl, ?_⟩
    walk_at "w"
    exact w_keep hk hA hlen hD rfl
  intro q H1 hq k1 hq1
  rw [fm_rep] at hq1
  have hq1' : H1 q = some (.lst (((runS (s0 n) (log.take 0)).2.2.take (n + 1).toNat).map V.bl)) := by
    rw [hq1, List.take_zero]
    show some (HO.lst ((List.replicate (n + 1).toNat false).map V.bl)) = some (HO.lst (((List.replicate (n + 2).toNat false).take (n + 1).toNat).map V.bl))
    rw [List.take_replicate, Nat.min_eq_left (by omega)]
  have hp1 := k1.at0 hp
  walk_at "w"
  refine w_rng1 (n := (log.length : Int)) (by omega) (by omega) (fun i σ' H' => (∃ z3 z5, σ' = [some (.int n), some (.ref p), some (.int g), z3, some (.ref q), z5]) ∧ Kp [] H H' ∧ okTo n (s0 n) log i ∧ H' q = some (.lst (((runS (s0 n) (log.take i)).2.2.take (n + 1).toNat).map V.bl))) ⟨⟨_, _, rfl⟩, k1, fun j o hj => by omega, hq1'⟩ ?_ ?_
  · rintro i σ' H2 hi ⟨⟨z3, z5, rfl⟩, k2, hok, hq2⟩
    have hu : log[i]? = some log[i] := List.getElem?_eq_getElem (by omega)
    generalize log[i] = u at hu
    have hgu : log.getD i default = u := gD_some hu
    have hp2 := k2.at0 hp
    have hln := flg_len n0 (log.take i)
    have bad : ¬OkAt n (runS (s0 n) (log.take i)) u → BadIx n log i u := fun z => ⟨hu, hok, z⟩
    walk_at "w"
    rw [Int.toNat_natCast, hgu]
    walk_at "w"
    refine w_ite (fun c3 => ?_) (fun c3 => ?_)
    · have c3' : ¬IsOp n u := fun z => z.1 (by omega)
      walk_at "w"
      rw [Int.toNat_natCast, hgu]
      walk_at "w"
      intro t ht
      exact k t _ (k2.free ht) (k2.new ht) (by rw [hF.un (.op i u n0 n1 (bad (fun z => c3' z.1)) c3')]; exact upd_same)
    walk_at "w"
    refine w_ite (fun c4 => ?_) (fun c4 => ?_)
    · have c3' : ¬IsOp n u := fun z => by have := z.2; omega
      walk_at "w"
      rw [Int.toNat_natCast, hgu]
      walk_at "w"
      intro t ht
      exact k t _ (k2.free ht) (k2.new ht) (by rw [hF.un (.op i u n0 n1 (bad (fun z => c3' z.1)) c3')]; exact upd_same)
    have hop : IsOp n u := ⟨by omega, by omega⟩
    walk_at "w"
    rw [Int.toNat_natCast, Int.toNat_natCast, hgu, getD_take (by omega)]
    by_cases c : (runS (s0 n) (log.take i)).2.2.getD u.natAbs default = decide (u < 0)
    · rw [show decide ((runS (s0 n) (log.take i)).2.2.getD u.natAbs default = decide (u < 0)) = true by simpa using c]
      walk_at "w"
      rw [Int.toNat_natCast, hgu]
      walk_at "w"
      intro t ht
      exact k t _ (k2.free ht) (k2.new ht) (by rw [hF.un (.ill i u n0 n1 (bad (fun z => z.2 c)) hop)]; exact upd_same)
    · rw [show decide ((runS (s0 n) (log.take i)).2.2.getD u.natAbs default = decide (u < 0)) = false by simpa using c]
      walk_at "w"
      simp only [Int.toNat_natCast, hgu]
      refine ⟨⟨_, _, rfl⟩, k2.own hq, fun j o hj ho => ?_, ?_⟩
      · by_cases z : j < i
        · exact hok j o z ho
        · obtain rfl : j = i := by omega
          rw [hu] at ho
          cases ho
          exact ⟨hop, c⟩
      · rw [take_snoc hu, F_snoc]
        unfold apF
        rw [List.take_set]
        exact upd_same
  · rintro σ' H2 ⟨⟨z3, z5, rfl⟩, k2, hok, hq2⟩
    walk_at "w"
    refine w_ite (fun c3 => ?_) (fun c3 => ?_)
    · walk_at "w"
      intro t ht
      exact k t _ (k2.free ht) (k2.new ht) (by rw [hF.un (.gap n0 n1 hok (fun z => by omega))]; exact upd_same)
    walk_at "w"
    refine w_ite (fun c4 => ?_) (fun c4 => ?_)
    · walk_at "w"
      intro t ht
      exact k t _ (k2.free ht) (k2.new ht) (by rw [hF.un (.gap n0 n1 hok (fun z => by omega))]; exact upd_same)
    walk_at "w"
    intro t ht
    exact k t _ (k2.free ht) (k2.new ht) (by rw [hF.un (.done n0 n1 hok (by omega) (by omega))]; exact upd_same)

/-! ### spoilt logs, trials, places -/
theorem cut_len {α : Type} (xs : List α) (lo hi : Option Int) : (cut xs lo hi).length ≤ xs.length := by
  unfold cut
  rw [List.length_take, List.length_drop]; omega
theorem cut_front {α : Type} {xs : List α} {i : Int} (i0 : 0 ≤ i) (i1 : i ≤ xs.length) : cut xs none (some i) = xs.take i.toNat := by
  unfold cut HT.sIx
  dsimp only
  rw [if_neg (by omega), List.drop_zero, Nat.sub_zero, Nat.min_eq_left (by omega)]
def sp__law_spoilt (a : AD) : Sp := fun vs H Q _ => ∃ (b : Addr) (n : Int) (d : Addr) (us : List Int), vs = [.ref b, .int n, .ref d] ∧ Bag H b ∧ 0 ≤ n ∧ n ≤ 60 ∧ H d = some (.lst (us.map V.int)) ∧ us.length ≤ 200 ∧ d ≠ b ∧ ∀ (p : Addr) (ws : List Int) (H' : Hp), H p = none → Kp [b] H H' → Bag H' b → H' p = some (.lst (ws.map V.int)) → ws.length ≤ 500 → Q (.ref p) H'
theorem sc__law_spoilt : FnScope ["_law_bag_here", "_law_size_here", "_law_deeds", "_law_at", "_law_way", "_law_far", "_law_wrong", "_law_node", "_law_deed", "_law_past", "_law_bent"] ["_law_bag_here", "_law_size_here", "_law_deeds"] (defScope s__law_spoilt) := ⟨rfl, rfl, rfl, by decide +kernel, rfl, by decide +kernel, by decide +kernel⟩
theorem ok__law_spoilt {P : Program} {w : World} {K : PySem.W.Frag} {mg : Str → Option Value} {base : Heap} {a : AD} (T : Txt P K mg a) (G__law_draw : FnA P w K mg base 2 a.f__law_draw ["_law_bag_here", "_law_many"] (sp__law_draw a)) : FnA P w K mg base 3 a.f__law_spoilt ["_law_bag_here", "_law_size_here", "_law_deeds"] (sp__law_spoilt a) := by
  obtain ⟨fd, F, b⟩ := T.F__law_spoilt
  refine FnA.of F sc__law_spoilt b (fun vs H Q E h => by first | (obtain ⟨rfl, _⟩ := h; rfl) | (obtain ⟨_, rfl, _⟩ := h; rfl) | (obtain ⟨_, _, rfl, _⟩ := h; rfl) | (obtain ⟨_, _, _, rfl, _⟩ := h; rfl) | (obtain ⟨_, _, _, _, rfl, _⟩ := h; rfl) | (obtain ⟨_, _, _, _, _, rfl, _⟩ := h; rfl) | (obtain ⟨_, _, _, _, _, _, rfl, _⟩ := h; rfl) | (obtain ⟨_, _, _, _, _, _, _, rfl, _⟩ := h; rfl) | (obtain ⟨_, _, _, _, _, _, _, _, rfl, _⟩ := h; rfl) | (obtain ⟨_, _, _, _, _, _, _, _, _, rfl, _⟩ := h; rfl) | (obtain ⟨_, _, _, _, _, _, _, _, _, _, rfl, _⟩ := h; rfl) | (obtain ⟨_, _, _, _, _, _, _, _, _, _, _, rfl, _⟩ := h; rfl) | (obtain ⟨_, _, _, _, _, _, _, _, _, _, _, _, rfl, _⟩ := h; rfl) | (obtain ⟨_, _, _, _, _, _, _, _, _, _, _, _, _, rfl, _⟩ := h; rfl) | (obtain ⟨_, _, _, _, _, _, _, _, _, _, _, _, _, _, rfl, _⟩ := h; rfl) | (obtain ⟨_, _, _, _, _, _, _, _, _, _, _, _, _, _, _, rfl, _⟩ := h; rfl) | (obtain ⟨_, _, _, _, _, _, _, _, _, _, _, _, _, _, _, _, rfl, _⟩ := h; rfl) | (obtain ⟨_, _, _, _, _, _, _, _, _, _, _, _, _, _, _, _, _, rfl, _⟩ := h; rfl) | (obtain ⟨_, _, _, _, _, _, _, _, _, _, _, _, _, _, _, _, _, _, rfl, _⟩ := h; rfl) | (obtain ⟨_, _, _, _, _, _, _, _, _, _, _, _, _, _, _, _, _, _, _, rfl, _⟩ := h; rfl) | (obtain ⟨_, _, _, _, _, _, _, _, _, _, _, _, _, _, _, _, _, _, _, _, rfl, _⟩ := h; rfl) | (obtain ⟨_, _, _, _, _, _, _, _, _, _, _, _, _, _, _, _, _, _, _, _, _, rfl, _⟩ := h; rfl) | (obtain ⟨_, _, _, _, _, _, _, _, _, _, _, _, _, _, _, _, _, _, _, _, _, _, rfl, _⟩ := h; rfl) | (obtain ⟨_, _, _, _, _, _, _, _, _, _, _, _, _, _, _, _, _, _, _, _, _, _, _, rfl, _⟩ := h; rfl)) (fun cdv A outer s H vs Q E hr tk pz h => ?_)
  have hu := hr.units
  have hrH := L2H.roomH_of hr
  obtain ⟨b, n, d, us, rfl, hB, n0, n1, hd, hl, db, k⟩ := h
  refine ⟨_, (pss_cons (ps_set (i := 3) sc__law_spoilt.nd rfl (Or.inl rfl) (pe_callA G__law_draw (Room.mono hr (by decide)) T.n__law_draw tk (pa_cons (pv 0) (pa_cons (pe_op o_add (pe_callB (b_len) rfl T.b_len (by decide +kernel) (pa_cons (pv 2) pa_nil)) pe_int) pa_nil))))
      (pss_cons (ps_set (i := 4) sc__law_spoilt.nd rfl (Or.inl rfl) (pe_callA G__law_draw (Room.mono hr (by decide)) T.n__law_draw tk (pa_cons (pv 0) (pa_cons pe_int pa_nil))))
      (pss_cons (ps_set (i := 5) sc__law_spoilt.nd rfl (Or.inl rfl) (pe_op o_mul (pe_callA G__law_draw (Room.mono hr (by decide)) T.n__law_draw tk (pa_cons (pv 0) (pa_cons pe_int pa_nil))) (pe_callA G__law_draw (Room.mono hr (by decide)) T.n__law_draw tk (pa_cons (pv 0) (pa_cons pe_int pa_nil)))))
      (pss_cons (ps_set (i := 6) sc__law_spoilt.nd rfl (Or.inl rfl) pe_int)
      (pss_cut (ps_if (pt_cmpA (o_eq hu) (pv 4) pe_int (nomark _)) (pss_one (ps_set (i := 6) sc__law_spoilt.nd rfl (Or.inl rfl) (pe_op o_add (pe_op o_add (pv 1) pe_int) (pv 5)))) pss_nil)
      (pss_cut (ps_if (pt_cmpA (o_eq hu) (pv 4) pe_int (nomark _)) (pss_one (ps_set (i := 6) sc__law_spoilt.nd rfl (Or.inl rfl) (pe_op op_sub (pe_op op_sub (pe_un un_neg pe_int) (pv 1)) (pv 5)))) pss_nil)
      (pss_cut (ps_if (PW.pt (pw_and (pt_cmpA (o_eq hu) (pv 4) pe_int (nomark _)) (pw_and1 (pt_cmpA op_gt (pv 1) pe_int (nomark _))))) (pss_cons (ps_set (i := 7) sc__law_spoilt.nd rfl (Or.inr rfl) (pe_op o_add pe_int (pe_callA G__law_draw (Room.mono hr (by decide)) T.n__law_draw tk (pa_cons (pv 0) (pa_cons (pv 1) pa_nil)))))
      (pss_cons (ps_setLc (i := 9) (own := [("_law_deed", 8)]) (g := (gName 8)) rfl sc__law_spoilt.nd rfl rfl (sw_true rfl rfl rfl (by decide +kernel)) (pi_list (pe_slice sl_any (pv 2) po_none (po_some (pv 3)))) (blkOk_by (own := [("_law_deed", 8)]) (N := ["_law_bag_here", "_law_size_here", "_law_deeds", "_law_at", "_law_way", "_law_far", "_law_wrong", "_law_node", "_law_deed", "_law_past", "_law_bent"]) (sc := defScope s__law_spoilt) (by decide +kernel)) (fun _ _ _ _ _ => (pg_name (i := 8) sc__law_spoilt.nd rfl (Or.inl rfl))) (fun _ _ _ _ _ => (pts_one (pt_cmpA (show OpR _ _ (aEq K) from (o_eq hu)) (pe_callB (b_abs) rfl T.b_abs (by decide +kernel) (pa_cons (pv 8) pa_nil)) (pv 7) (nomark _)))) (fun _ _ _ _ _ => (pv 8)))
      (pss_cons (ps_set (i := 6) sc__law_spoilt.nd rfl (Or.inl rfl) (pv 7))
      (pss_one (ps_if (pt_cmpA op_gt (pe_callB (b_len) rfl T.b_len (by decide +kernel) (pa_cons (pv 9) pa_nil)) pe_int (nomark _)) (pss_one (ps_set (i := 6) sc__law_spoilt.nd rfl (Or.inl rfl) (pe_ix ix_seq (pv 9) (pe_un un_neg pe_int) (fun _ _ => rfl)))) pss_nil))))) pss_nil)
      (pss_cons (ps_set (i := 10) sc__law_spoilt.nd rfl (Or.inl rfl) (pe_op o_add (pe_op o_add (pe_slice sl_any (pv 2) po_none (po_some (pv 3))) (pe_lst (pa_cons (pv 6) pa_nil))) (pe_slice sl_any (pv 2) (po_some (pv 3)) po_none)))
      (pss_cons (ps_if (pt_cmpA (o_eq hu) (pe_callA G__law_draw (Room.mono hr (by decide)) T.n__law_draw tk (pa_cons (pv 0) (pa_cons pe_int pa_nil))) pe_int (nomark _)) (pss_one (ps_expr (pe_bm PySem.F.plainAttrs_list PySem.F.slot_list_append PySem.F.type_list_append mt_append (pv 10) (pa_cons pe_int pa_nil)))) pss_nil)
      (pss_one (ps_ret (pv 10)))))))))))), ?_⟩
  show (_ : Ends → L2.St → Hp → Prop) _ [some _, some _, some _, none, none, none, none, none, none, none, none] _
  try dsimp only [L2H.cxH, cxOf]
  have dbm : d ∉ [b] := by simpa using db
  walk_at "w"
  refine ⟨b, _, rfl, hB, by omega, by omega, fun at1 H1 a0 a1 B1 k1 => ?_⟩
  walk_at "w"
  refine ⟨b, _, rfl, B1, by omega, by omega, fun way H2 _ _ B2 k2 => ?_⟩
  walk_at "w"
  refine ⟨b, _, rfl, B2, by omega, by omega, fun f1 H3 f10 f11 B3 k3 => ?_⟩
  walk_at "w"
  refine ⟨b, _, rfl, B3, by omega, by omega, fun f2 H4 f20 f21 B4 k4 => ?_⟩
  have k04 := ((k1.trans k2).trans k3).trans k4
  have hd4 := k04 d _ hd dbm
  clear B1 B2 B3 k1 k2 k3 k4
  walk_at "w"
  refine s_cut (fun σ' H' => H' = H4 ∧ ∃ wr far : Int, σ' = [some (.ref b), some (.int n), some (.ref d), some (.int at1), some (.int way), some (.int far), some (.int wr), none, none, none, none]) ?_ ?_
  · walk_at "w"
    refine w_ite (fun c => ?_) (fun c => ?_)
    · walk_at "w"
      exact ⟨rfl, _, _, rfl⟩
    · walk_at "w"
      exact ⟨rfl, _, _, rfl⟩
  rintro σ' H5 ⟨e, wr, far, rfl⟩
  subst e
  refine s_cut (fun σ' H' => H' = H5 ∧ ∃ wr : Int, σ' = [some (.ref b), some (.int n), some (.ref d), some (.int at1), some (.int way), some (.int far), some (.int wr), none, none, none, none]) ?_ ?_
  · walk_at "w"
    refine w_ite (fun c => ?_) (fun c => ?_)
    · walk_at "w"
      exact ⟨rfl, _, rfl⟩
    · walk_at "w"
      exact ⟨rfl, _, rfl⟩
  rintro σ' H6 ⟨e, wr, rfl⟩
  subst e
  refine s_cut (fun σ' H' => Kp [b] H H' ∧ Bag H' b ∧ ∃ (wr : Int) (z7 z8 z9 : Option V), σ' = [some (.ref b), some (.int n), some (.ref d), some (.int at1), some (.int way), some (.int far), some (.int wr), z7, z8, z9, none]) ?_ ?_
  · walk_at "w"
    refine w_ite (fun c => ?_) (fun c => ?_)
    · walk_at "w"
      refine w_ite (fun c2 => ?_) (fun c2 => ?_)
      · walk_at "w"
        refine ⟨b, _, rfl, B4, by omega, by omega, fun nd H7 nd0 nd1 B7 k7 => ?_⟩
        have hd7 := k7 d _ hd4 dbm
        have k07 := k04.trans k7
        walk_at "w"
        intro q hq
        have kq := k07.new (o := .lst ((cut us none (some at1)).map V.int)) hq
        have Bq := B7.new (o := .lst ((cut us none (some at1)).map V.int)) hq
        have hq8 : upd H7 q (.lst ((cut us none (some at1)).map V.int)) q = some (.lst ((cut us none (some at1)).map V.int)) := upd_same
        have hcl := cut_len us none (some at1)
        generalize upd H7 q (.lst ((cut us none (some at1)).map V.int)) = H8 at kq Bq hq8 ⊢
        generalize cut us none (some at1) = cs at hq8 hcl
        walk_at "w"
        refine w_lcM (f := V.int) (f' := V.int) (fun u => if (u.natAbs : Int) = 1 + nd then some u else none) hq8 (by rw [sizeLine_eq]; omega) ?_ ?_
        · intro D i u acc H' hD hu hk hA hlen
          walk_at "w"
          refine ⟨rfl, ?_⟩
          walk_at "w"
          refine w_ite (fun c3 => ?_) (fun c3 => ?_)
          · walk_at "w"
            exact w_keep hk hA hlen hD (by rw [if_pos c3])
          · walk_at "w"
            exact w_drop hk hA (by rw [if_neg c3])
        · intro D H9 hD hk9 hA
          have hlf := fm_len (fun u : Int => if (u.natAbs : Int) = 1 + nd then some u else none) cs
          generalize cs.filterMap (fun u : Int => if (u.natAbs : Int) = 1 + nd then some u else none) = ps at hA hlf
          walk_at "w"
          refine w_ite (fun c4 => ?_) (fun c4 => ?_)
          · walk_at "w"
            exact ⟨kq.trans0 hk9, Bq.kp hk9, _, _, _, _, rfl⟩
          · walk_at "w"
            exact ⟨kq.trans0 hk9, Bq.kp hk9, _, _, _, _, rfl⟩
      · walk_at "w"
        exact ⟨k04, B4, _, _, _, _, rfl⟩
    · walk_at "w"
      exact ⟨k04, B4, _, _, _, _, rfl⟩
  rintro σ' H7 ⟨k07, B7, wr, z7, z8, z9, rfl⟩
  have hd7 := k07 d _ hd dbm
  have c1 := cut_len us none (some at1)
  have c2 := cut_len us (some at1) none
  walk_at "w"
  intro q1 hq1
  walk_at "w"
  intro q2 hq2
  walk_at "w"
  intro q3 hq3
  walk_at "w"
  intro q4 hq4
  walk_at "w"
  intro q5 hq5
  have k8 : Kp [] H7 (upd (upd (upd (upd (upd H7 q1 (.lst ((cut us none (some at1)).map V.int))) q2 (.lst [.int wr])) q3 (.lst ((cut us none (some at1) ++ [wr]).map V.int))) q4 (.lst ((cut us (some at1) none).map V.int))) q5 (.lst (((cut us none (some at1) ++ [wr]) ++ cut us (some at1) none).map V.int))) := ((((Kp.refl.new hq1).new hq2).new hq3).new hq4).new hq5
  have h5 : upd (upd (upd (upd (upd H7 q1 (.lst ((cut us none (some at1)).map V.int))) q2 (.lst [.int wr])) q3 (.lst ((cut us none (some at1) ++ [wr]).map V.int))) q4 (.lst ((cut us (some at1) none).map V.int))) q5 (.lst (((cut us none (some at1) ++ [wr]) ++ cut us (some at1) none).map V.int)) q5 = some (.lst (((cut us none (some at1) ++ [wr]) ++ cut us (some at1) none).map V.int)) := upd_same
  have hq57 : H7 q5 = none := upd_nil (upd_nil (upd_nil (upd_nil hq5)))
  generalize upd (upd (upd (upd (upd H7 q1 (.lst ((cut us none (some at1)).map V.int))) q2 (.lst [.int wr])) q3 (.lst ((cut us none (some at1) ++ [wr]).map V.int))) q4 (.lst ((cut us (some at1) none).map V.int))) q5 (.lst (((cut us none (some at1) ++ [wr]) ++ cut us (some at1) none).map V.int)) = H8 at k8 h5 ⊢
  have hwl : ((cut us none (some at1) ++ [wr]) ++ cut us (some at1) none).length ≤ 401 := by
    rw [List.length_append, List.length_append, List.length_singleton]; omega
  generalize (cut us none (some at1) ++ [wr]) ++ cut us (some at1) none = ws at h5 hwl
  have hq5H : H q5 = none := k07.freeM hq57 (by simpa using B7.live)
  have qb : q5 ≠ b := B7.ne hq57
  walk_at "w"
  refine ⟨b, _, rfl, B7.kp k8, by omega, by omega, fun x H9 _ _ B9 k9 => ?_⟩
  have h59 := k9 q5 _ h5 (by simpa using qb)
  have k09 := (k07.trans0 k8).trans k9
  walk_at "w"
  refine w_ite (fun c => ?_) (fun c => ?_)
  · walk_at "w"
    exact k q5 (ws ++ [0]) _ hq5H (k09.own hq5H) (B9.mut qb) upd_same (by rw [List.length_append, List.length_singleton]; omega)
  · walk_at "w"
    exact k q5 ws _ hq5H k09 B9 h59 (by omega)
/-- a trial: a size, a log, a gap -/
def TriOk (H : Hp) (x : V) : Prop := ∃ (T q : Addr) (m g : Int) (us : List Int), x = .ref T ∧ H T = some (.tup [.int m, .ref q, .int g]) ∧ H q = some (.lst (us.map V.int)) ∧ us.length ≤ 1000
theorem TriOk.kp0 {H H' : Hp} {x : V} (h : TriOk H x) (k : Kp [] H H') : TriOk H' x := by
  obtain ⟨T, q, m, g, us, h1, h2, h3, h4⟩ := h
  exact ⟨T, q, m, g, us, h1, k.at0 h2, k.at0 h3, h4⟩
theorem tri_app {H : Hp} {xs ys : List V} (h1 : ∀ x ∈ xs, TriOk H x) (h2 : ∀ x ∈ ys, TriOk H x) : ∀ x ∈ xs ++ ys, TriOk H x := fun x hx => by
  rcases List.mem_append.mp hx with z | z
  · exact h1 x z
  · exact h2 x z
theorem TriOk.mutL {H : Hp} {x : V} {X : Addr} {xs : List V} {r : Addr} {o : HO} (h : TriOk H x) (hX : H X = some (.lst xs)) (hr : V.ref r ∈ xs) : TriOk (upd H X o) x := by
  obtain ⟨T, q, m, g, us, h1, h2, h3, h4⟩ := h
  refine ⟨T, q, m, g, us, h1, upd_get (ne_of h2 hX (by intro z; cases z)) h2, upd_get (fun z => ?_) h3, h4⟩
  subst z
  rw [h3] at hX
  injection hX with e
  injection e with e
  rw [← e] at hr
  obtain ⟨u, _, e2⟩ := List.mem_map.mp hr
  cases e2
def sp__law_trials (a : AD) : Sp := fun vs H Q _ => ∃ (b : Addr) (n : Int) (d : Addr) (us : List Int), vs = [.ref b, .int n, .ref d] ∧ Bag H b ∧ 0 ≤ n ∧ n ≤ 60 ∧ H d = some (.lst (us.map V.int)) ∧ us.length ≤ 200 ∧ d ≠ b ∧ ∀ (p : Addr) (xs : List V) (H' : Hp), Kp [b] H H' → Bag H' b → H' p = some (.lst xs) → xs.length ≤ 100 → (∀ x ∈ xs, TriOk H' x) → Q (.ref p) H'
theorem sc__law_trials : FnScope ["_law_bag_here", "_law_size_here", "_law_deeds", "_law_bent", "_law_far", "_law_trials_here"] ["_law_bag_here", "_law_size_here", "_law_deeds"] (defScope s__law_trials) := ⟨rfl, rfl, rfl, by decide +kernel, rfl, by decide +kernel, by decide +kernel⟩
theorem ok__law_trials {P : Program} {w : World} {K : PySem.W.Frag} {mg : Str → Option Value} {base : Heap} {a : AD} (T : Txt P K mg a) (G__law_spoilt : FnA P w K mg base 3 a.f__law_spoilt ["_law_bag_here", "_law_size_here", "_law_deeds"] (sp__law_spoilt a)) (G__law_draw : FnA P w K mg base 2 a.f__law_draw ["_law_bag_here", "_law_many"] (sp__law_draw a)) : FnA P w K mg base 4 a.f__law_trials ["_law_bag_here", "_law_size_here", "_law_deeds"] (sp__law_trials a) := by
  obtain ⟨fd, F, b⟩ := T.F__law_trials
  refine FnA.of F sc__law_trials b (fun vs H Q E h => by first | (obtain ⟨rfl, _⟩ := h; rfl) | (obtain ⟨_, rfl, _⟩ := h; rfl) | (obtain ⟨_, _, rfl, _⟩ := h; rfl) | (obtain ⟨_, _, _, rfl, _⟩ := h; rfl) | (obtain ⟨_, _, _, _, rfl, _⟩ := h; rfl) | (obtain ⟨_, _, _, _, _, rfl, _⟩ := h; rfl) | (obtain ⟨_, _, _, _, _, _, rfl, _⟩ := h; rfl) | (obtain ⟨_, _, _, _, _, _, _, rfl, _⟩ := h; rfl) | (obtain ⟨_, _, _, _, _, _, _, _, rfl, _⟩ := h; rfl) | (obtain ⟨_, _, _, _, _, _, _, _, _, rfl, _⟩ := h; rfl) | (obtain ⟨_, _, _, _, _, _, _, _, _, _, rfl, _⟩ := h; rfl) | (obtain ⟨_, _, _, _, _, _, _, _, _, _, _, rfl, _⟩ := h; rfl) | (obtain ⟨_, _, _, _, _, _, _, _, _, _, _, _, rfl, _⟩ := h; rfl) | (obtain ⟨_, _, _, _, _, _, _, _, _, _, _, _, _, rfl, _⟩ := h; rfl) | (obtain ⟨_, _, _, _, _, _, _, _, _, _, _, _, _, _, rfl, _⟩ := h; rfl) | (obtain ⟨_, _, _, _, _, _, _, _, _, _, _, _, _, _, _, rfl, _⟩ := h; rfl) | (obtain ⟨_, _, _, _, _, _, _, _, _, _, _, _, _, _, _, _, rfl, _⟩ := h; rfl) | (obtain ⟨_, _, _, _, _, _, _, _, _, _, _, _, _, _, _, _, _, rfl, _⟩ := h; rfl) | (obtain ⟨_, _, _, _, _, _, _, _, _, _, _, _, _, _, _, _, _, _, rfl, _⟩ := h; rfl) | (obtain ⟨_, _, _, _, _, _, _, _, _, _, _, _, _, _, _, _, _, _, _, rfl, _⟩ := h; rfl) | (obtain ⟨_, _, _, _, _, _, _, _, _, _, _, _, _, _, _, _, _, _, _, _, rfl, _⟩ := h; rfl) | (obtain ⟨_, _, _, _, _, _, _, _, _, _, _, _, _, _, _, _, _, _, _, _, _, rfl, _⟩ := h; rfl) | (obtain ⟨_, _, _, _, _, _, _, _, _, _, _, _, _, _, _, _, _, _, _, _, _, _, rfl, _⟩ := h; rfl) | (obtain ⟨_, _, _, _, _, _, _, _, _, _, _, _, _, _, _, _, _, _, _, _, _, _, _, rfl, _⟩ := h; rfl)) (fun cdv A outer s H vs Q E hr tk pz h => ?_)
  have hu := hr.units
  have hrH := L2H.roomH_of hr
  obtain ⟨b, n, d, us, rfl, hB, n0, n1, hd, hl, db, k⟩ := h
  refine ⟨_, (pss_cons (ps_set (i := 3) sc__law_trials.nd rfl (Or.inl rfl) (pe_callA G__law_spoilt (Room.mono hr (by decide)) T.n__law_spoilt tk (pa_cons (pv 0) (pa_cons (pv 1) (pa_cons (pv 2) pa_nil)))))
      (pss_cons (ps_set (i := 4) sc__law_trials.nd rfl (Or.inl rfl) (pe_callA G__law_draw (Room.mono hr (by decide)) T.n__law_draw tk (pa_cons (pv 0) (pa_cons pe_int pa_nil))))
      (pss_cut (ps_set (i := 5) sc__law_trials.nd rfl (Or.inl rfl) (pe_lst (pa_cons (pe_tup (pa_cons (pv 1) (pa_cons (pv 3) (pa_cons pe_int pa_nil)))) (pa_cons (pe_tup (pa_cons (pv 1) (pa_cons (pv 3) (pa_cons (pe_op o_add (pe_op o_add (pv 1) pe_int) (pv 4)) pa_nil)))) (pa_cons (pe_tup (pa_cons (pv 1) (pa_cons (pe_op o_add (pv 2) (pe_lst (pa_cons pe_int pa_nil))) (pa_cons (pe_un un_neg pe_int) pa_nil)))) pa_nil)))))
      (pss_cut (ps_set (i := 5) sc__law_trials.nd rfl (Or.inl rfl) (pe_op o_add (pv 5) (pe_lst (pa_cons (pe_tup (pa_cons (pe_op op_sub (pe_un un_neg pe_int) (pv 4)) (pa_cons (pv 3) (pa_cons (pe_un un_neg pe_int) pa_nil)))) (pa_cons (pe_tup (pa_cons (pe_un un_neg pe_int) (pa_cons (pv 2) (pa_cons pe_int pa_nil)))) (pa_cons (pe_tup (pa_cons pe_int (pa_cons (pv 3) (pa_cons pe_int pa_nil)))) (pa_cons (pe_tup (pa_cons (pe_op o_add pe_int (pv 4)) (pa_cons (pv 2) (pa_cons pe_int pa_nil)))) pa_nil)))))))
      (pss_cut (ps_set (i := 5) sc__law_trials.nd rfl (Or.inl rfl) (pe_op o_add (pv 5) (pe_lst (pa_cons (pe_tup (pa_cons (pv 1) (pa_cons (pv 2) (pa_cons pe_int pa_nil)))) (pa_cons (pe_tup (pa_cons (pv 1) (pa_cons (pv 2) (pa_cons (pv 1) pa_nil)))) (pa_cons (pe_tup (pa_cons (pv 1) (pa_cons (pv 2) (pa_cons (pe_un un_neg pe_int) pa_nil)))) (pa_cons (pe_tup (pa_cons (pv 1) (pa_cons (pv 2) (pa_cons (pe_op op_sub (pe_un un_neg pe_int) (pv 4)) pa_nil)))) pa_nil)))))))
      (pss_cut (ps_set (i := 5) sc__law_trials.nd rfl (Or.inl rfl) (pe_op o_add (pv 5) (pe_lst (pa_cons (pe_tup (pa_cons (pv 1) (pa_cons (pv 2) (pa_cons (pe_op o_add (pv 1) pe_int) pa_nil)))) (pa_cons (pe_tup (pa_cons (pv 1) (pa_cons (pv 2) (pa_cons (pe_op o_add (pe_op o_add (pv 1) pe_int) (pv 4)) pa_nil)))) pa_nil)))))
      (pss_cons (ps_if (pt_cmpA op_gt (pe_callB (b_len) rfl T.b_len (by decide +kernel) (pa_cons (pv 2) pa_nil)) pe_int (nomark _)) (pss_one (ps_expr (pe_bm PySem.F.plainAttrs_list PySem.F.slot_list_append PySem.F.type_list_append mt_append (pv 5) (pa_cons (pe_tup (pa_cons (pv 1) (pa_cons (pe_op o_add (pv 2) (pe_lst (pa_cons (pe_ix ix_seq (pv 2) (pe_un un_neg pe_int) (fun _ _ => rfl)) pa_nil))) (pa_cons pe_int pa_nil)))) pa_nil)))) pss_nil)
      (pss_one (ps_ret (pv 5)))))))))), ?_⟩
  show (_ : Ends → L2.St → Hp → Prop) _ [some _, some _, some _, none, none, none] _
  try dsimp only [L2H.cxH, cxOf]
  have dbm : d ∉ [b] := by simpa using db
  walk_at "w"
  refine ⟨b, n, d, us, rfl, hB, n0, n1, hd, hl, db, fun p ws H1 hp k1 B1 hp1 hwl => ?_⟩
  have hpb : p ≠ b := hB.ne hp
  walk_at "w"
  refine ⟨b, _, rfl, B1, by omega, by omega, fun far H2 f0 f1 B2 k2 => ?_⟩
  have k02 := k1.trans k2
  have hp2 := k2 p _ hp1 (by simpa using hpb)
  have hd2 := k02 d _ hd dbm
  clear B1 k1 k2 hp1
  walk_at "w"
  refine s_cut (fun σ' H' => Kp [] H2 H' ∧ ∃ (X : Addr) (xs : List V), σ' = [some (.ref b), some (.int n), some (.ref d), some (.ref p), some (.int far), some (.ref X)] ∧ H' X = some (.lst xs) ∧ xs.length ≤ 20 ∧ ∀ x ∈ xs, TriOk H' x) ?_ ?_
  · walk_at "w"
    intro T1 hT1
    walk_at "w"
    intro T2 hT2
    walk_at "w"
    intro q1 hq1
    walk_at "w"
    intro q2 hq2
    walk_at "w"
    intro T3 hT3
    walk_at "w"
    intro X hX
    walk_at "w"
    refine ⟨by walk_at "kp", X, _, rfl, upd_same, by simp, fun x hx => ?_⟩
    simp only [List.mem_cons, List.mem_nil_iff, or_false] at hx
    rcases hx with rfl | rfl | rfl
    · exact ⟨T1, p, _, _, ws, rfl, by walk_at "hp", by walk_at "hp", by omega⟩
    · exact ⟨T2, p, _, _, ws, rfl, by walk_at "hp", by walk_at "hp", by omega⟩
    · exact ⟨T3, q2, _, _, us ++ [0], rfl, by walk_at "hp", by walk_at "hp", by rw [List.length_append, List.length_singleton]; omega⟩
  rintro σ' H3 ⟨k3, X, xs, rfl, hX, hxl, hxs⟩
  have k03 := k02.trans0 k3
  have hp3 := k3.at0 hp2
  have hd3 := k3.at0 hd2
  have B3 := B2.kp k3
  clear hp2 hd2 B2 k3 k02
  refine s_cut (fun σ' H' => Kp [] H3 H' ∧ ∃ (X : Addr) (xs : List V), σ' = [some (.ref b), some (.int n), some (.ref d), some (.ref p), some (.int far), some (.ref X)] ∧ H' X = some (.lst xs) ∧ xs.length ≤ 40 ∧ ∀ x ∈ xs, TriOk H' x) ?_ ?_
  · walk_at "w"
    intro T1 hT1
    walk_at "w"
    intro T2 hT2
    walk_at "w"
    intro T3 hT3
    walk_at "w"
    intro T4 hT4
    walk_at "w"
    intro Y hY
    walk_at "w"
    intro Z hZ
    walk_at "w"
    refine ⟨by walk_at "kp", Z, _, rfl, upd_same, by simp; omega, tri_app (fun x hx => (hxs x hx).kp0 (by walk_at "kp")) (fun x hx => ?_)⟩
    simp only [List.mem_cons, List.mem_nil_iff, or_false] at hx
    rcases hx with rfl | rfl | rfl | rfl
    · exact ⟨T1, p, _, _, ws, rfl, by walk_at "hp", by walk_at "hp", by omega⟩
    · exact ⟨T2, d, _, _, us, rfl, by walk_at "hp", by walk_at "hp", by omega⟩
    · exact ⟨T3, p, _, _, ws, rfl, by walk_at "hp", by walk_at "hp", by omega⟩
    · exact ⟨T4, d, _, _, us, rfl, by walk_at "hp", by walk_at "hp", by omega⟩
  rintro σ' H4 ⟨k4, X, xs, rfl, hX, hxl, hxs⟩
  have k04 := k03.trans0 k4
  have hp4 := k4.at0 hp3
  have hd4 := k4.at0 hd3
  have B4 := B3.kp k4
  clear hp3 hd3 B3 k4 k03
  refine s_cut (fun σ' H' => Kp [] H4 H' ∧ ∃ (X : Addr) (xs : List V), σ' = [some (.ref b), some (.int n), some (.ref d), some (.ref p), some (.int far), some (.ref X)] ∧ H' X = some (.lst xs) ∧ xs.length ≤ 60 ∧ ∀ x ∈ xs, TriOk H' x) ?_ ?_
  · walk_at "w"
    intro T1 hT1
    walk_at "w"
    intro T2 hT2
    walk_at "w"
    intro T3 hT3
    walk_at "w"
    intro T4 hT4
    walk_at "w"
    intro Y hY
    walk_at "w"
    intro Z hZ
    walk_at "w"
    refine ⟨by walk_at "kp", Z, _, rfl, upd_same, by simp; omega, tri_app (fun x hx => (hxs x hx).kp0 (by walk_at "kp")) (fun x hx => ?_)⟩
    simp only [List.mem_cons, List.mem_nil_iff, or_false] at hx
    rcases hx with rfl | rfl | rfl | rfl
    · exact ⟨T1, d, _, _, us, rfl, by walk_at "hp", by walk_at "hp", by omega⟩
    · exact ⟨T2, d, _, _, us, rfl, by walk_at "hp", by walk_at "hp", by omega⟩
    · exact ⟨T3, d, _, _, us, rfl, by walk_at "hp", by walk_at "hp", by omega⟩
    · exact ⟨T4, d, _, _, us, rfl, by walk_at "hp", by walk_at "hp", by omega⟩
  rintro σ' H5 ⟨k5, X, xs, rfl, hX, hxl, hxs⟩
  have k05 := k04.trans0 k5
  have hp5 := k5.at0 hp4
  have hd5 := k5.at0 hd4
  have B5 := B4.kp k5
  clear hp4 hd4 B4 k5 k04
  refine s_cut (fun σ' H' => Kp [] H5 H' ∧ ∃ (X : Addr) (xs : List V), σ' = [some (.ref b), some (.int n), some (.ref d), some (.ref p), some (.int far), some (.ref X)] ∧ H5 X = none ∧ H' X = some (.lst xs) ∧ xs.length ≤ 80 ∧ (∃ T, V.ref T ∈ xs) ∧ ∀ x ∈ xs, TriOk H' x) ?_ ?_
  · walk_at "w"
    intro T1 hT1
    walk_at "w"
    intro T2 hT2
    walk_at "w"
    intro Y hY
    walk_at "w"
    intro Z hZ
    walk_at "w"
    refine ⟨by walk_at "kp", Z, _, rfl, by walk_at "fr", upd_same, by simp; omega, ⟨T1, by simp⟩, tri_app (fun x hx => (hxs x hx).kp0 (by walk_at "kp")) (fun x hx => ?_)⟩
    simp only [List.mem_cons, List.mem_nil_iff, or_false] at hx
    rcases hx with rfl | rfl
    · exact ⟨T1, d, _, _, us, rfl, by walk_at "hp", by walk_at "hp", by omega⟩
    · exact ⟨T2, d, _, _, us, rfl, by walk_at "hp", by walk_at "hp", by omega⟩
  rintro σ' H6 ⟨k6, X, xs, rfl, hXn, hX, hxl, ⟨T0, hT0⟩, hxs⟩
  have k06 := k05.trans0 k6
  have hd6 := k6.at0 hd5
  have B6 := B5.kp k6
  walk_at "w"
  refine w_ite (fun c => ?_) (fun c => ?_)
  · walk_at "w"
    intro q1 hq1
    walk_at "w"
    intro q2 hq2
    walk_at "w"
    intro T hT
    walk_at "w"
    refine k X _ _ ((((k06.new hq1).new hq2).new hT).own (k05.freeM hXn (by simpa using B5.live))) ((((B6.new hq1).new hq2).new hT).mut (B5.ne hXn)) upd_same (by simp; omega) (tri_app (fun x hx => TriOk.mutL ((hxs x hx).kp0 (((Kp.refl.new hq1).new hq2).new hT)) (upd_new hT (upd_new hq2 (upd_new hq1 hX))) hT0) (fun x hx => ?_))
    rw [List.mem_singleton] at hx
    subst hx
    refine TriOk.mutL ?_ (upd_new hT (upd_new hq2 (upd_new hq1 hX))) hT0
    exact ⟨T, q2, _, _, _, rfl, upd_same, by walk_at "hp", by rw [List.length_append, List.length_singleton]; omega⟩
  · walk_at "w"
    exact k X xs H6 k06 B6 hX (by omega) hxs
def sp__law_places (a : AD) : Sp := fun vs H Q _ => ∃ (b : Addr) (n : Int) (d : Addr) (us : List Int), vs = [.ref b, .int n, .ref d] ∧ Bag H b ∧ 0 ≤ n ∧ n ≤ 60 ∧ H d = some (.lst (us.map V.int)) ∧ us.length ≤ 200 ∧ (∀ o ∈ us, IsOp n o) ∧ d ≠ b ∧ ∀ (p : Addr) (gs : List Int) (H' : Hp), H p = none → Kp [b] H H' → Bag H' b → H' p = some (.lst (gs.map V.int)) → gs.length ≤ 100 → (∀ g ∈ gs, 0 ≤ g ∧ g ≤ n) → gs ≠ [] → Q (.ref p) H'
theorem sc__law_places : FnScope ["_law_bag_here", "_law_size_here", "_law_deeds", "_law_place", "_law_places_here", "_law_turn", "_law_node"] ["_law_bag_here", "_law_size_here", "_law_deeds"] (defScope s__law_places) := ⟨rfl, rfl, rfl, by decide +kernel, rfl, by decide +kernel, by decide +kernel⟩
theorem ok__law_places {P : Program} {w : World} {K : PySem.W.Frag} {mg : Str → Option Value} {base : Heap} {a : AD} (T : Txt P K mg a) (G__law_draw : FnA P w K mg base 2 a.f__law_draw ["_law_bag_here", "_law_many"] (sp__law_draw a)) : FnA P w K mg base 3 a.f__law_places ["_law_bag_here", "_law_size_here", "_law_deeds"] (sp__law_places a) := by
  obtain ⟨fd, F, b⟩ := T.F__law_places
  refine FnA.of F sc__law_places b (fun vs H Q E h => by first | (obtain ⟨rfl, _⟩ := h; rfl) | (obtain ⟨_, rfl, _⟩ := h; rfl) | (obtain ⟨_, _, rfl, _⟩ := h; rfl) | (obtain ⟨_, _, _, rfl, _⟩ := h; rfl) | (obtain ⟨_, _, _, _, rfl, _⟩ := h; rfl) | (obtain ⟨_, _, _, _, _, rfl, _⟩ := h; rfl) | (obtain ⟨_, _, _, _, _, _, rfl, _⟩ := h; rfl) | (obtain ⟨_, _, _, _, _, _, _, rfl, _⟩ := h; rfl) | (obtain ⟨_, _, _, _, _, _, _, _, rfl, _⟩ := h; rfl) | (obtain ⟨_, _, _, _, _, _, _, _, _, rfl, _⟩ := h; rfl) | (obtain ⟨_, _, _, _, _, _, _, _, _, _, rfl, _⟩ := h; rfl) | (obtain ⟨_, _, _, _, _, _, _, _, _, _, _, rfl, _⟩ := h; rfl) | (obtain ⟨_, _, _, _, _, _, _, _, _, _, _, _, rfl, _⟩ := h; rfl) | (obtain ⟨_, _, _, _, _, _, _, _, _, _, _, _, _, rfl, _⟩ := h; rfl) | (obtain ⟨_, _, _, _, _, _, _, _, _, _, _, _, _, _, rfl, _⟩ := h; rfl) | (obtain ⟨_, _, _, _, _, _, _, _, _, _, _, _, _, _, _, rfl, _⟩ := h; rfl) | (obtain ⟨_, _, _, _, _, _, _, _, _, _, _, _, _, _, _, _, rfl, _⟩ := h; rfl) | (obtain ⟨_, _, _, _, _, _, _, _, _, _, _, _, _, _, _, _, _, rfl, _⟩ := h; rfl) | (obtain ⟨_, _, _, _, _, _, _, _, _, _, _, _, _, _, _, _, _, _, rfl, _⟩ := h; rfl) | (obtain ⟨_, _, _, _, _, _, _, _, _, _, _, _, _, _, _, _, _, _, _, rfl, _⟩ := h; rfl) | (obtain ⟨_, _, _, _, _, _, _, _, _, _, _, _, _, _, _, _, _, _, _, _, rfl, _⟩ := h; rfl) | (obtain ⟨_, _, _, _, _, _, _, _, _, _, _, _, _, _, _, _, _, _, _, _, _, rfl, _⟩ := h; rfl) | (obtain ⟨_, _, _, _, _, _, _, _, _, _, _, _, _, _, _, _, _, _, _, _, _, _, rfl, _⟩ := h; rfl) | (obtain ⟨_, _, _, _, _, _, _, _, _, _, _, _, _, _, _, _, _, _, _, _, _, _, _, rfl, _⟩ := h; rfl)) (fun cdv A outer s H vs Q E hr tk pz h => ?_)
  have hu := hr.units
  have hrH := L2H.roomH_of hr
  obtain ⟨b, n, d, us, rfl, hB, n0, n1, hd, hl, hop, db, k⟩ := h
  refine ⟨_, (pss_cons (ps_if (pt_cmpA op_le (pv 1) pe_int (nomark _)) (pss_one (ps_ret (pe_lc (own := [("_law_place", 3)]) (g := (gName 3)) (tt := tYes) rfl sc__law_places.nd (pi_range1 rfl T.b_range (pa_cons (pe_op o_add (pv 1) pe_int) pa_nil)) (blkOk_by (own := [("_law_place", 3)]) (N := ["_law_bag_here", "_law_size_here", "_law_deeds", "_law_place", "_law_places_here", "_law_turn", "_law_node"]) (sc := defScope s__law_places) (by decide +kernel)) (fun _ _ _ _ _ => (pg_name (i := 3) sc__law_places.nd rfl (Or.inl rfl))) (fun _ _ _ _ _ => pts_nil) (fun _ _ _ _ _ => (pv 3))))) pss_nil)
      (pss_cons (ps_set (i := 4) sc__law_places.nd rfl (Or.inl rfl) (pe_lst (pa_cons pe_int (pa_cons (pv 1) (pa_cons (pe_callA G__law_draw (Room.mono hr (by decide)) T.n__law_draw tk (pa_cons (pv 0) (pa_cons (pe_op o_add (pv 1) pe_int) pa_nil))) pa_nil)))))
      (pss_cons (ps_for pz rfl (pi_range1 rfl T.b_range (pa_cons pe_int pa_nil)) (pg_name (i := 5) sc__law_places.nd rfl (Or.inl rfl))
      (pss_one (ps_if (pt_cmpA op_gt (pe_callB (b_len) rfl T.b_len (by decide +kernel) (pa_cons (pv 2) pa_nil)) pe_int (nomark _)) (pss_cons (ps_set (i := 6) sc__law_places.nd rfl (Or.inl rfl) (pe_callB (b_abs) rfl T.b_abs (by decide +kernel) (pa_cons (pe_ix ix_seq (pv 2) (pe_callA G__law_draw (Room.mono hr (by decide)) T.n__law_draw tk (pa_cons (pv 0) (pa_cons (pe_callB (b_len) rfl T.b_len (by decide +kernel) (pa_cons (pv 2) pa_nil)) pa_nil))) (fun _ _ => rfl)) pa_nil)))
      (pss_one (ps_expr (pe_bm PySem.F.plainAttrs_list PySem.F.slot_list_append PySem.F.type_list_append mt_append (pv 4) (pa_cons (pe_op op_sub (pv 6) (pe_callA G__law_draw (Room.mono hr (by decide)) T.n__law_draw tk (pa_cons (pv 0) (pa_cons pe_int pa_nil)))) pa_nil))))) pss_nil)))
      (pss_one (ps_ret (pv 4)))))), ?_⟩
  show (_ : Ends → L2.St → Hp → Prop) _ [some _, some _, some _, none, none, none, none] _
  try dsimp only [L2H.cxH, cxOf]
  have dbm : d ∉ [b] := by simpa using db
  walk_at "w"
  refine w_ite (fun c => ?_) (fun c => ?_)
  · walk_at "w"
    refine w_lcR1 (f' := V.int) (fun i : Nat => some (i : Int)) (n := n + 1) (by omega) (by omega) (by rw [sizeLine_eq]; omega) ?_ ?_
    · intro D i acc H' hD hi hk hA hlen
      walk_at "w"
      refine ⟨rfl, ?_⟩
      walk_at "w"
      exact w_keep hk hA hlen hD rfl
    · intro D H' hD hk hA
      rw [fm_some] at hA
      refine k D _ H' hD (hk.mono (by simp)) (hB.kp hk) hA (by simp; omega) (fun g hg => ?_) (by
        intro z
        have := congrArg List.length z
        simp at this; omega)
      obtain ⟨i, hi, rfl⟩ := List.mem_map.mp hg
      have := List.mem_range.mp hi
      omega
  · walk_at "w"
    refine ⟨b, _, rfl, hB, by omega, by omega, fun x H1 x0 x1 B1 k1 => ?_⟩
    have hd1 := k1 d _ hd dbm
    walk_at "w"
    intro p hp
    have kp1 := k1.new (o := .lst [.int 0, .int n, .int x]) hp
    have Bp1 := B1.new (o := .lst [.int 0, .int n, .int x]) hp
    have hp2 : upd H1 p (.lst [.int 0, .int n, .int x]) p = some (.lst (([0, n, x] : List Int).map V.int)) := upd_same
    have hd2 : upd H1 p (.lst [.int 0, .int n, .int x]) d = some (.lst (us.map V.int)) := upd_new hp hd1
    have hpH : H p = none := k1.freeM hp (by simpa using B1.live)
    have pb : p ≠ b := B1.ne hp
    have pd : d ≠ p := ne_of_none hd1 hp
    generalize upd H1 p (.lst [.int 0, .int n, .int x]) = H2 at kp1 Bp1 hp2 hd2 ⊢
    walk_at "w"
    refine w_rng1 (n := 6) (by omega) (by omega) (fun i σ' H' => ∃ (gs : List Int) (z3 z5 z6 : Option V), σ' = [some (.ref b), some (.int n), some (.ref d), z3, some (.ref p), z5, z6] ∧ Kp [b] H H' ∧ Bag H' b ∧ H' p = some (.lst (gs.map V.int)) ∧ H' d = some (.lst (us.map V.int)) ∧ gs.length ≤ 3 + i ∧ gs ≠ [] ∧ ∀ g ∈ gs, 0 ≤ g ∧ g ≤ n) ⟨[0, n, x], _, _, _, rfl, kp1, Bp1, hp2, hd2, by simp, by simp, fun g hg => ?_⟩ ?_ ?_
    · simp only [List.mem_cons, List.mem_nil_iff, or_false] at hg
      rcases hg with rfl | rfl | rfl <;> omega
    · rintro i σ' H3 hi ⟨gs, z3, z5, z6, rfl, k3, B3, hp3, hd3, hgl, hne, hgs⟩
      walk_at "w"
      refine w_ite (fun c2 => ?_) (fun c2 => ?_)
      · walk_at "w"
        refine ⟨b, _, rfl, B3, by omega, by omega, fun j H4 j0 j1 B4 k4 => ?_⟩
        have hd4 := k4 d _ hd3 dbm
        have hp4 := k4 p _ hp3 (by simpa using pb)
        have hx := hop (us.getD j.toNat default) (by
          rw [List.getD_eq_getElem?_getD, List.getElem?_eq_getElem (by omega)]
          exact List.getElem_mem _)
        walk_at "w"
        generalize us.getD j.toNat default = u at hx ⊢
        have h1 := hx.1
        have h2 := hx.2
        walk_at "w"
        refine ⟨b, _, rfl, B4, by omega, by omega, fun y H5 y0 y1 B5 k5 => ?_⟩
        have hd5 := k5 d _ hd4 dbm
        have hp5 := k5 p _ hp4 (by simpa using pb)
        walk_at "w"
        refine ⟨gs ++ [(u.natAbs : Int) - y], _, _, _, rfl, ((k3.trans k4).trans k5).own hpH, B5.mut pb, upd_same, upd_get pd hd5, by rw [List.length_append, List.length_singleton]; omega, by simp, fun g hg => ?_⟩
        rcases List.mem_append.mp hg with z | z
        · exact hgs g z
        · rw [List.mem_singleton.mp z]; omega
      · walk_at "w"
        exact ⟨gs, _, _, _, rfl, k3, B3, hp3, hd3, by omega, hne, hgs⟩
    · rintro σ' H3 ⟨gs, z3, z5, z6, rfl, k3, B3, hp3, hd3, hgl, hne, hgs⟩
      walk_at "w"
      exact k p gs H3 hpH k3 B3 hp3 (by omega) hgs hne

def sp_replay (a : AD) : Sp := fun vs H Q E => ∃ (n : Int) (p : Addr) (log : List Int), vs = [.int n, .ref p] ∧ H p = some (.lst (log.map V.int)) ∧ log.length ≤ 100000 ∧ logSp a n log H E (∀ (x l r f : Addr) (H' : Hp), H x = none → H l = none → H r = none → H f = none → LkS a H' x l r f n (runS (s0 n) log) → Kp [] H H' → Q (.ref x) H')
theorem sc_replay : FnScope ["size", "log", "links", "index", "operation"] ["size", "log"] (defScope s_replay) := ⟨rfl, rfl, rfl, by decide +kernel, rfl, by decide +kernel, by decide +kernel⟩
theorem ok_replay {P : Program} {w : World} {K : PySem.W.Frag} {mg : Str → Option Value} {base : Heap} {a : AD} (T : Txt P K mg a) (G_Links___init__ : FnA P w K mg base 3 a.f_Links___init__ ["self", "size"] (sp_Links___init__ a)) (G_Links_apply_at : FnA P w K mg base 3 a.f_Links_apply_at ["self", "operation", "index"] (sp_Links_apply_at a)) : FnA P w K mg base 5 a.f_replay ["size", "log"] (sp_replay a) := by
  obtain ⟨fd, F, b⟩ := T.F_replay
  refine FnA.of F sc_replay b (fun vs H Q E h => by first | (obtain ⟨rfl, _⟩ := h; rfl) | (obtain ⟨_, rfl, _⟩ := h; rfl) | (obtain ⟨_, _, rfl, _⟩ := h; rfl) | (obtain ⟨_, _, _, rfl, _⟩ := h; rfl) | (obtain ⟨_, _, _, _, rfl, _⟩ := h; rfl) | (obtain ⟨_, _, _, _, _, rfl, _⟩ := h; rfl) | (obtain ⟨_, _, _, _, _, _, rfl, _⟩ := h; rfl) | (obtain ⟨_, _, _, _, _, _, _, rfl, _⟩ := h; rfl) | (obtain ⟨_, _, _, _, _, _, _, _, rfl, _⟩ := h; rfl) | (obtain ⟨_, _, _, _, _, _, _, _, _, rfl, _⟩ := h; rfl) | (obtain ⟨_, _, _, _, _, _, _, _, _, _, rfl, _⟩ := h; rfl) | (obtain ⟨_, _, _, _, _, _, _, _, _, _, _, rfl, _⟩ := h; rfl) | (obtain ⟨_, _, _, _, _, _, _, _, _, _, _, _, rfl, _⟩ := h; rfl) | (obtain ⟨_, _, _, _, _, _, _, _, _, _, _, _, _, rfl, _⟩ := h; rfl) | (obtain ⟨_, _, _, _, _, _, _, _, _, _, _, _, _, _, rfl, _⟩ := h; rfl) | (obtain ⟨_, _, _, _, _, _, _, _, _, _, _, _, _, _, _, rfl, _⟩ := h; rfl) | (obtain ⟨_, _, _, _, _, _, _, _, _, _, _, _, _, _, _, _, rfl, _⟩ := h; rfl) | (obtain ⟨_, _, _, _, _, _, _, _, _, _, _, _, _, _, _, _, _, rfl, _⟩ := h; rfl) | (obtain ⟨_, _, _, _, _, _, _, _, _, _, _, _, _, _, _, _, _, _, rfl, _⟩ := h; rfl) | (obtain ⟨_, _, _, _, _, _, _, _, _, _, _, _, _, _, _, _, _, _, _, rfl, _⟩ := h; rfl) | (obtain ⟨_, _, _, _, _, _, _, _, _, _, _, _, _, _, _, _, _, _, _, _, rfl, _⟩ := h; rfl) | (obtain ⟨_, _, _, _, _, _, _, _, _, _, _, _, _, _, _, _, _, _, _, _, _, rfl, _⟩ := h; rfl) | (obtain ⟨_, _, _, _, _, _, _, _, _, _, _, _, _, _, _, _, _, _, _, _, _, _, rfl, _⟩ := h; rfl) | (obtain ⟨_, _, _, _, _, _, _, _, _, _, _, _, _, _, _, _, _, _, _, _, _, _, _, rfl, _⟩ := h; rfl)) (fun cdv A outer s H vs Q E hr tk pz h => ?_)
  have hu := hr.units
  have hrH := L2H.roomH_of hr
  obtain ⟨n, p, log, rfl, hp, hlen, hs, h⟩ := h
  refine ⟨_, (pss_cons (ps_set (i := 2) sc_replay.nd rfl (Or.inl rfl) (pe_makeS G_Links___init__ T.mk_Links (Room.mono hr (by decide)) T.c_Links tk (pa_cons (pv 0) pa_nil)))
      (pss_cons (ps_for pz rfl (pi_enum rfl T.b_enumerate (pa_cons (pv 1) pa_nil)) (pg_tup (n := 2) rfl (pgs_cons (pg_name (i := 3) sc_replay.nd rfl (Or.inl rfl)) (pgs_cons (pg_name (i := 4) sc_replay.nd rfl (Or.inl rfl)) pgs_nil)))
      (pss_one (ps_expr (pe_methS (pl := _) G_Links_apply_at (Room.mono hr (by decide)) T.cl_Links T.me_Links_apply_at tk (pv 2) (pa_cons (pv 4) (pa_cons (pv 3) pa_nil))))))
      (pss_one (ps_ret (pv 2))))), ?_⟩
  show (_ : Ends → L2.St → Hp → Prop) _ [some _, some _, none, none, none] _
  try dsimp only [L2H.cxH, cxOf]
  walk_at "w"
  refine mk_new hs fun n0 n1 x l r f H1 hx hl hr hf hL k1 => ?_
  obtain ⟨hb, hi, k⟩ := h n0 n1
  have W0 := wfs0 n0 n1
  walk_at "w"
  refine w_enumM (us := log) (f := V.int) (p := p) (k1.at0 hp) (fun i σ' H' => (∃ z1 z2, σ' = [some (.int n), some (.ref p), some (.ref x), z1, z2]) ∧ Kp [] H H' ∧ okTo n (s0 n) log i ∧ LkS a H' x l r f n (runS (s0 n) (log.take i))) ⟨⟨_, _, rfl⟩, k1, fun j o hj => by omega, hL⟩ (fun i σ' H' _ h => h.2.1.at0 hp) ?_ ?_
  · rintro i u T σ' H' hu ⟨⟨z1, z2, rfl⟩, hk, hok, hL2⟩ hT
    have hil : i < log.length := (List.getElem?_eq_some_iff.mp hu).1
    have hkT := hk.new (o := .tup [.int (i : Int), .int u]) hT
    have hLT := hL2.kp0 (Kp.refl.new (o := .tup [.int (i : Int), .int u]) hT)
    generalize upd H' T (.tup [.int (i : Int), .int u]) = H3 at hkT hLT ⊢
    have hx3 := hLT.1.choose_spec
    walk_at "w"
    refine ap_step W0 hu hok rfl (by omega) hLT (fun z d H2 hd hd2 k2 => hb i u hu hok z d H2 (hkT.free hd) hd2 (hkT.trans k2)) (fun z1 z2 d H2 hd hd2 k2 => hi i u hu hok z1 z2 d H2 (hkT.free hd) hd2 (hkT.trans k2)) (fun hO Wi hok' H4 hL4 k4 => ?_)
    have k04 := kp_new3 hkT hl hr hf k4
    walk_at "w"
    refine ⟨⟨_, _, rfl⟩, k04, hok', ?_⟩
    rw [take_snoc hu, runS_snoc]
    exact hL4
  · rintro σ' H' ⟨⟨z1, z2, rfl⟩, hk, hok, hL2⟩
    rw [List.take_length] at hL2
    walk_at "w"
    exact k hok x l r f H' hx hl hr hf hL2 hk

/-! ### sound, whole -/
def sp_Links_outs (a : AD) : Sp := fun vs H Q E => ∃ (x l r f : Addr) (n : Int) (s : List Int × List Int × List Bool), vs = [.ref x] ∧ LkS a H x l r f n s ∧ WFs n s ∧ ∀ p H', H p = none → Kp [] H H' → H' p = some (.lst ((outL n s.2.2).map V.int)) → Q (.ref p) H'
theorem sc_Links_outs : FnScope ["self", "node"] ["self"] (defScope s_Links_outs) := ⟨rfl, rfl, rfl, by decide +kernel, rfl, by decide +kernel, by decide +kernel⟩
theorem ok_Links_outs {P : Program} {w : World} {K : PySem.W.Frag} {mg : Str → Option Value} {base : Heap} {a : AD} (T : Txt P K mg a) : FnA P w K mg base 2 a.f_Links_outs ["self"] (sp_Links_outs a) := by
  obtain ⟨fd, F, b⟩ := T.F_Links_outs
  refine FnA.of F sc_Links_outs b (fun vs H Q E h => by first | (obtain ⟨rfl, _⟩ := h; rfl) | (obtain ⟨_, rfl, _⟩ := h; rfl) | (obtain ⟨_, _, rfl, _⟩ := h; rfl) | (obtain ⟨_, _, _, rfl, _⟩ := h; rfl) | (obtain ⟨_, _, _, _, rfl, _⟩ := h; rfl) | (obtain ⟨_, _, _, _, _, rfl, _⟩ := h; rfl) | (obtain ⟨_, _, _, _, _, _, rfl, _⟩ := h; rfl) | (obtain ⟨_, _, _, _, _, _, _, rfl, _⟩ := h; rfl) | (obtain ⟨_, _, _, _, _, _, _, _, rfl, _⟩ := h; rfl) | (obtain ⟨_, _, _, _, _, _, _, _, _, rfl, _⟩ := h; rfl) | (obtain ⟨_, _, _, _, _, _, _, _, _, _, rfl, _⟩ := h; rfl) | (obtain ⟨_, _, _, _, _, _, _, _, _, _, _, rfl, _⟩ := h; rfl) | (obtain ⟨_, _, _, _, _, _, _, _, _, _, _, _, rfl, _⟩ := h; rfl) | (obtain ⟨_, _, _, _, _, _, _, _, _, _, _, _, _, rfl, _⟩ := h; rfl) | (obtain ⟨_, _, _, _, _, _, _, _, _, _, _, _, _, _, rfl, _⟩ := h; rfl) | (obtain ⟨_, _, _, _, _, _, _, _, _, _, _, _, _, _, _, rfl, _⟩ := h; rfl) | (obtain ⟨_, _, _, _, _, _, _, _, _, _, _, _, _, _, _, _, rfl, _⟩ := h; rfl) | (obtain ⟨_, _, _, _, _, _, _, _, _, _, _, _, _, _, _, _, _, rfl, _⟩ := h; rfl) | (obtain ⟨_, _, _, _, _, _, _, _, _, _, _, _, _, _, _, _, _, _, rfl, _⟩ := h; rfl) | (obtain ⟨_, _, _, _, _, _, _, _, _, _, _, _, _, _, _, _, _, _, _, rfl, _⟩ := h; rfl) | (obtain ⟨_, _, _, _, _, _, _, _, _, _, _, _, _, _, _, _, _, _, _, _, rfl, _⟩ := h; rfl) | (obtain ⟨_, _, _, _, _, _, _, _, _, _, _, _, _, _, _, _, _, _, _, _, _, rfl, _⟩ := h; rfl) | (obtain ⟨_, _, _, _, _, _, _, _, _, _, _, _, _, _, _, _, _, _, _, _, _, _, rfl, _⟩ := h; rfl) | (obtain ⟨_, _, _, _, _, _, _, _, _, _, _, _, _, _, _, _, _, _, _, _, _, _, _, rfl, _⟩ := h; rfl)) (fun cdv A outer s H vs Q E hr tk pz h => ?_)
  have hu := hr.units
  have hrH := L2H.roomH_of hr
  obtain ⟨x, l, r, f, n, s, rfl, hL, W, k⟩ := h
  refine ⟨_, (pss_one (ps_ret (pe_lc (own := [("node", 1)]) (g := (gName 1)) rfl sc_Links_outs.nd (pi_range2 rfl T.b_range (pa_cons pe_int (pa_cons (pe_op o_add (pe_fld (pv 0) rfl) pe_int) pa_nil))) (blkOk_by (own := [("node", 1)]) (N := ["self", "node"]) (sc := defScope s_Links_outs) (by decide +kernel)) (fun _ _ _ _ _ => (pg_name (i := 1) sc_Links_outs.nd rfl (Or.inl rfl))) (fun _ _ _ _ _ => (pts_one (show PT _ _ (cTru K _) from (pt_tru (pe_ix (show IxR _ (rIx K) from ix_seq) (show PE _ _ (tFld K _ _) from (pe_fld (pv 0) rfl)) (pv 1) (fun _ _ => rfl)))))) (fun _ _ _ _ _ => (pv 1))))), ?_⟩
  show (_ : Ends → L2.St → Hp → Prop) _ [some _, none] _
  try dsimp only [L2H.cxH, cxOf]
  have n0 := WF.n0 W
  have n1 := WF.n1 W
  have hF := WF.hF W
  obtain ⟨⟨dx, hx⟩, hl, hr', hf, _⟩ := id hL
  walk_at "w"
  refine w_lcR2 (f' := V.int) (fun i : Nat => if s.2.2.getD (i + 1) default = true then some (1 + (i : Int)) else none) (lo := 1) (n := n + 1) (by omega) (by omega) (by omega) (by omega) (by rw [sizeLine_eq]; omega) ?_ ?_
  · intro D i acc H' hD hi hk hA hlen
    have hx5 := hk.at0 hx
    have hf5 := hk.at0 hf
    walk_at "w"
    refine ⟨rfl, ?_⟩
    walk_at "w"
    rw [show (1 + (i : Int)).toNat = i + 1 by omega]
    refine w_iteb (fun c => ?_) (fun c => ?_)
    · walk_at "w"
      exact w_keep hk hA hlen hD (by rw [if_pos c])
    · walk_at "w"
      exact w_drop hk hA (by rw [if_neg (by rw [c]; exact Bool.false_ne_true)])
  · intro D H' hD hk hA
    rw [show (n + 1 - 1).toNat = n.toNat by omega] at hA
    exact k D H' hD hk hA
theorem outL_nil {n : Int} {F : List Bool} : outL n F = [] ↔ ∀ v : Nat, 1 ≤ v → (v : Int) ≤ n → F.getD v default = false := by
  constructor
  · intro h v v1 v2
    cases c : F.getD v default with
    | false => rfl
    | true =>
      have : (v : Int) ∈ outL n F := by
        unfold outL
        rw [List.mem_filterMap]
        refine ⟨v - 1, List.mem_range.mpr (by omega), ?_⟩
        rw [show v - 1 + 1 = v by omega, if_pos c]
        congr 1; omega
      rw [h] at this
      exact absurd this List.not_mem_nil
  · intro h
    unfold outL
    rw [List.filterMap_eq_nil_iff]
    intro i hi
    have hi := List.mem_range.mp hi
    rw [if_neg (by rw [h (i + 1) (by omega) (by omega)]; exact Bool.false_ne_true)]
theorem state_joined {R L : List Int} {g : Int} : stateOf R L g = ("joined" : Str) ↔ R.getD g.toNat default = g + 1 ∧ L.getD (g + 1).toNat default = g := by
  unfold stateOf
  by_cases c1 : R.getD g.toNat default = g + 1
  · rw [if_pos c1]
    by_cases c2 : L.getD (g + 1).toNat default = g
    · rw [if_pos c2]; exact ⟨fun _ => ⟨c1, c2⟩, fun _ => rfl⟩
    · rw [if_neg c2]; exact ⟨fun h => absurd h (by decide), fun h => absurd h.2 c2⟩
  · rw [if_neg c1]
    by_cases c2 : L.getD (g + 1).toNat default = g
    · rw [if_pos c2]; exact ⟨fun h => absurd h (by decide), fun h => absurd h.1 c1⟩
    · rw [if_neg c2]; exact ⟨fun h => absurd h (by decide), fun h => absurd h.1 c1⟩

/-! ### what an operation does to the states -/
/-- the state that the gap left of the node comes to, where it may change -/
def endA (R L : List Int) (o : Int) : Option Str :=
  let lo := L.getD o.natAbs default
  if lo = (o.natAbs : Int) - 1 ∧ o > 0 then some "joined" else if lo = (o.natAbs : Int) - 1 then some "right" else if stateOf R L lo = ("joined" : Str) then some "right" else if stateOf R L lo = ("left" : Str) then some "lost" else none
def endB (R L : List Int) (o : Int) : Option Str :=
  let hi := R.getD o.natAbs default
  if hi = (o.natAbs : Int) + 1 ∧ o > 0 then some "joined" else if hi = (o.natAbs : Int) + 1 then some "left" else if stateOf R L (hi - 1) = ("joined" : Str) then some "left" else if stateOf R L (hi - 1) = ("right" : Str) then some "lost" else none
theorem getD_set {us : List Int} {i j : Nat} {u : Int} (h : i < us.length) : (us.set i u).getD j default = if i = j then u else us.getD j default := by
  by_cases z : i = j
  · subst z
    rw [if_pos rfl, getD_set_eq h]
  · rw [if_neg z, getD_set_ne z]
/-- the two links that a gap's state is made of, behind an operation -/
theorem ap_R {n : Int} {R L : List Int} {F : List Bool} (w : WF n R L F) {o : Int} (h : IsOp n o) (g : Int) (g0 : 0 ≤ g) : (apR L R o).getD g.toNat default = if g = L.getD o.natAbs default then (if o < 0 then R.getD o.natAbs default else (o.natAbs : Int)) else R.getD g.toNat default := by
  have h1 := h.1
  have h2 := h.2
  have q := w.at (v := o.natAbs) (by omega) h2
  have hR := w.hR
  unfold apR
  rw [getD_set (by omega)]
  by_cases z : g = L.getD o.natAbs default
  · rw [if_pos (by omega), if_pos z]
  · rw [if_neg (by omega), if_neg z]
theorem ap_L {n : Int} {R L : List Int} {F : List Bool} (w : WF n R L F) {o : Int} (h : IsOp n o) (g : Int) (g0 : 0 ≤ g) : (apL L R o).getD (g + 1).toNat default = if g + 1 = R.getD o.natAbs default then (if o < 0 then L.getD o.natAbs default else (o.natAbs : Int)) else L.getD (g + 1).toNat default := by
  have h1 := h.1
  have h2 := h.2
  have q := w.at (v := o.natAbs) (by omega) h2
  have hL := w.hL
  unfold apL
  rw [getD_set (by omega)]
  by_cases z : g + 1 = R.getD o.natAbs default
  · rw [if_pos (by omega), if_pos z]
  · rw [if_neg (by omega), if_neg z]
/-- another gap keeps its state -/
theorem ap_other {n : Int} {R L : List Int} {F : List Bool} (w : WF n R L F) {o : Int} (h : IsOp n o) {g : Int} (g0 : 0 ≤ g) (z1 : g ≠ L.getD o.natAbs default) (z2 : g ≠ R.getD o.natAbs default - 1) : stateOf (apR L R o) (apL L R o) g = stateOf R L g := by
  unfold stateOf
  rw [ap_R w h g g0, ap_L w h g g0, if_neg z1, if_neg (show ¬g + 1 = R.getD o.natAbs default by omega)]
/-- the left of the two gaps -/
theorem ap_low {n : Int} {R L : List Int} {F : List Bool} (w : WF n R L F) {o : Int} (h : IsOp n o) : stateOf (apR L R o) (apL L R o) (L.getD o.natAbs default) = (endA R L o).getD (stateOf R L (L.getD o.natAbs default)) := by
  have h1 := h.1
  have h2 := h.2
  have q := w.at (v := o.natAbs) (by omega) h2
  have eR := ap_R w h (L.getD o.natAbs default) q.1
  have eL := ap_L w h (L.getD o.natAbs default) q.1
  rw [if_pos rfl] at eR
  rw [if_neg (by omega)] at eL
  have hv : L.getD o.natAbs default = (o.natAbs : Int) - 1 → (L.getD o.natAbs default + 1).toNat = o.natAbs := fun z => by omega
  unfold endA
  dsimp only
  generalize hlo : L.getD o.natAbs default = lo at q eR eL hv ⊢
  generalize hhi : R.getD o.natAbs default = hi at q eR eL ⊢
  by_cases c1 : lo = (o.natAbs : Int) - 1
  · have e3 := hv c1
    have e4 : L.getD (lo + 1).toNat default = lo := by rw [e3]; exact hlo
    rw [e4] at eL
    by_cases c2 : o > 0
    · rw [if_pos ⟨c1, c2⟩]
      unfold stateOf
      rw [eR, eL, if_neg (show ¬o < 0 by omega), if_pos (show (o.natAbs : Int) = lo + 1 by omega), if_pos rfl]
      rfl
    · rw [if_neg (fun z => c2 z.2), if_pos c1]
      unfold stateOf
      rw [eR, eL, if_pos (show o < 0 by omega), if_neg (show ¬hi = lo + 1 by omega), if_pos rfl]
      rfl
  · rw [if_neg (fun z => c1 z.1), if_neg c1]
    have e5 : ¬(if o < 0 then hi else (o.natAbs : Int)) = lo + 1 := by split <;> omega
    have e6 : stateOf (apR L R o) (apL L R o) lo = if L.getD (lo + 1).toNat default = lo then ("right" : Str) else "lost" := by
      unfold stateOf
      rw [eR, if_neg e5, eL]
    rw [e6]
    unfold stateOf
    by_cases d1 : R.getD lo.toNat default = lo + 1
    · rw [if_pos d1]
      by_cases d2 : L.getD (lo + 1).toNat default = lo
      · rw [if_pos d2, if_pos d2, if_pos rfl]; rfl
      · rw [if_neg d2, if_neg d2, if_neg (by decide), if_pos rfl]; rfl
    · rw [if_neg d1]
      by_cases d2 : L.getD (lo + 1).toNat default = lo
      · rw [show (if L.getD (lo + 1).toNat default = lo then ("right" : Str) else "lost") = "right" from if_pos d2, if_neg (by decide), if_neg (by decide)]; rfl
      · rw [show (if L.getD (lo + 1).toNat default = lo then ("right" : Str) else "lost") = "lost" from if_neg d2, if_neg (by decide), if_neg (by decide)]; rfl
/-- the right of the two gaps -/
theorem ap_high {n : Int} {R L : List Int} {F : List Bool} (w : WF n R L F) {o : Int} (h : IsOp n o) : stateOf (apR L R o) (apL L R o) (R.getD o.natAbs default - 1) = (endB R L o).getD (stateOf R L (R.getD o.natAbs default - 1)) := by
  have h1 := h.1
  have h2 := h.2
  have q := w.at (v := o.natAbs) (by omega) h2
  have eR := ap_R w h (R.getD o.natAbs default - 1) (by omega)
  have eL := ap_L w h (R.getD o.natAbs default - 1) (by omega)
  rw [if_neg (by omega)] at eR
  rw [if_pos (by omega)] at eL
  unfold endB
  dsimp only
  have hv : R.getD o.natAbs default = (o.natAbs : Int) + 1 → R.getD (R.getD o.natAbs default - 1).toNat default = R.getD o.natAbs default := fun z => by rw [show (R.getD o.natAbs default - 1).toNat = o.natAbs by omega]
  generalize hlo : L.getD o.natAbs default = lo at q eR eL ⊢
  generalize hhi : R.getD o.natAbs default = hi at q eR eL hv ⊢
  rw [show hi - 1 + 1 = hi by omega] at eL
  by_cases c1 : hi = (o.natAbs : Int) + 1
  · have e4 : R.getD (hi - 1).toNat default = hi := hv c1
    rw [e4] at eR
    by_cases c2 : o > 0
    · rw [if_pos ⟨c1, c2⟩]
      unfold stateOf
      rw [eR, show hi - 1 + 1 = hi by omega, if_pos rfl, eL, if_neg (show ¬o < 0 by omega), if_pos (show (o.natAbs : Int) = hi - 1 by omega)]
      rfl
    · rw [if_neg (fun z => c2 z.2), if_pos c1]
      unfold stateOf
      rw [eR, show hi - 1 + 1 = hi by omega, if_pos rfl, eL, if_pos (show o < 0 by omega), if_neg (show ¬lo = hi - 1 by omega)]
      rfl
  · rw [if_neg (fun z => c1 z.1), if_neg c1]
    have e5 : ¬(if o < 0 then lo else (o.natAbs : Int)) = hi - 1 := by split <;> omega
    have e6 : stateOf (apR L R o) (apL L R o) (hi - 1) = if R.getD (hi - 1).toNat default = hi then ("left" : Str) else "lost" := by
      unfold stateOf
      rw [show hi - 1 + 1 = hi by omega, eL, if_neg e5, if_neg e5, eR]
    rw [e6]
    unfold stateOf
    rw [show hi - 1 + 1 = hi by omega]
    by_cases d1 : R.getD (hi - 1).toNat default = hi
    · rw [if_pos d1, if_pos d1]
      by_cases d2 : L.getD hi.toNat default = hi - 1
      · rw [if_pos d2, if_pos rfl]; rfl
      · rw [if_neg d2, if_neg (by decide), if_neg (by decide)]; rfl
    · rw [if_neg d1, if_neg d1]
      by_cases d2 : L.getD hi.toNat default = hi - 1
      · rw [if_pos d2, if_neg (by decide), if_pos rfl]; rfl
      · rw [if_neg d2, if_neg (by decide), if_neg (by decide)]; rfl

/-! ### verdicts -/
def NoV (v : V) : Option Int → Prop
  | none => v = .non
  | some i => v = .int i
/-- a Verdict at x -/
def VdO (a : AD) (H : Hp) (x q : Addr) (us : List Int) (og oi : Option Int) : Prop := ∃ (dx : Addr) (vg vi : V) (wb : Bool), H x = some (.ins a.Verdict dx [("out_nodes", .ref q), ("gap", vg), ("index", vi), ("whole", .bl wb)]) ∧ wb = (og.isNone && decide ((us.length : Int) = 0)) ∧ NoV vg og ∧ NoV vi oi ∧ H q = some (.lst (us.map V.int))
theorem VdO.kp0 {a : AD} {H H' : Hp} {x q : Addr} {us : List Int} {og oi : Option Int} (h : VdO a H x q us og oi) (k : Kp [] H H') : VdO a H' x q us og oi := by
  obtain ⟨dx, vg, vi, wb, h1, h0, h2, h3, h4⟩ := h
  exact ⟨dx, vg, vi, wb, k.at0 h1, h0, h2, h3, k.at0 h4⟩
def sp_Verdict___init__ (a : AD) : Sp := fun vs H Q E => ∃ (x dx p : Addr) (us : List Int) (vg vi : V) (og oi : Option Int), vs = [.ref x, .ref p, vg, vi] ∧ H x = some (.ins a.Verdict dx []) ∧ H p = some (.lst (us.map V.int)) ∧ NoV vg og ∧ NoV vi oi ∧ ∀ (q : Addr) (H' : Hp), H q = none → VdO a H' x q us og oi → Kp [x] H H' → Q .non H'
theorem sc_Verdict___init__ : FnScope ["self", "out_nodes", "gap", "index"] ["self", "out_nodes", "gap", "index"] (defScope s_Verdict___init__) := ⟨rfl, rfl, rfl, by decide +kernel, rfl, by decide +kernel, by decide +kernel⟩
theorem ok_Verdict___init__ {P : Program} {w : World} {K : PySem.W.Frag} {mg : Str → Option Value} {base : Heap} {a : AD} (T : Txt P K mg a) : FnA P w K mg base 2 a.f_Verdict___init__ ["self", "out_nodes", "gap", "index"] (sp_Verdict___init__ a) := by
  obtain ⟨fd, F, b⟩ := T.F_Verdict___init__
  refine FnA.of F sc_Verdict___init__ b (fun vs H Q E h => by first | (obtain ⟨rfl, _⟩ := h; rfl) | (obtain ⟨_, rfl, _⟩ := h; rfl) | (obtain ⟨_, _, rfl, _⟩ := h; rfl) | (obtain ⟨_, _, _, rfl, _⟩ := h; rfl) | (obtain ⟨_, _, _, _, rfl, _⟩ := h; rfl) | (obtain ⟨_, _, _, _, _, rfl, _⟩ := h; rfl) | (obtain ⟨_, _, _, _, _, _, rfl, _⟩ := h; rfl) | (obtain ⟨_, _, _, _, _, _, _, rfl, _⟩ := h; rfl) | (obtain ⟨_, _, _, _, _, _, _, _, rfl, _⟩ := h; rfl) | (obtain ⟨_, _, _, _, _, _, _, _, _, rfl, _⟩ := h; rfl) | (obtain ⟨_, _, _, _, _, _, _, _, _, _, rfl, _⟩ := h; rfl) | (obtain ⟨_, _, _, _, _, _, _, _, _, _, _, rfl, _⟩ := h; rfl) | (obtain ⟨_, _, _, _, _, _, _, _, _, _, _, _, rfl, _⟩ := h; rfl) | (obtain ⟨_, _, _, _, _, _, _, _, _, _, _, _, _, rfl, _⟩ := h; rfl) | (obtain ⟨_, _, _, _, _, _, _, _, _, _, _, _, _, _, rfl, _⟩ := h; rfl) | (obtain ⟨_, _, _, _, _, _, _, _, _, _, _, _, _, _, _, rfl, _⟩ := h; rfl) | (obtain ⟨_, _, _, _, _, _, _, _, _, _, _, _, _, _, _, _, rfl, _⟩ := h; rfl) | (obtain ⟨_, _, _, _, _, _, _, _, _, _, _, _, _, _, _, _, _, rfl, _⟩ := h; rfl) | (obtain ⟨_, _, _, _, _, _, _, _, _, _, _, _, _, _, _, _, _, _, rfl, _⟩ := h; rfl) | (obtain ⟨_, _, _, _, _, _, _, _, _, _, _, _, _, _, _, _, _, _, _, rfl, _⟩ := h; rfl) | (obtain ⟨_, _, _, _, _, _, _, _, _, _, _, _, _, _, _, _, _, _, _, _, rfl, _⟩ := h; rfl) | (obtain ⟨_, _, _, _, _, _, _, _, _, _, _, _, _, _, _, _, _, _, _, _, _, rfl, _⟩ := h; rfl) | (obtain ⟨_, _, _, _, _, _, _, _, _, _, _, _, _, _, _, _, _, _, _, _, _, _, rfl, _⟩ := h; rfl) | (obtain ⟨_, _, _, _, _, _, _, _, _, _, _, _, _, _, _, _, _, _, _, _, _, _, _, rfl, _⟩ := h; rfl)) (fun cdv A outer s H vs Q E hr tk pz h => ?_)
  have hu := hr.units
  have hrH := L2H.roomH_of hr
  obtain ⟨x, dx, p, us, vg, vi, og, oi, rfl, hx, hp, hg, hi, k⟩ := h
  refine ⟨_, (pss_cons (ps_fld (pv 0) (pe_callTy b_list rfl T.b_list (by decide +kernel) (pa_cons (pv 1) pa_nil)) rfl)
      (pss_cons (ps_fld (pv 0) (pv 2) rfl)
      (pss_cons (ps_fld (pv 0) (pv 3) rfl)
      (pss_one (ps_fld (pv 0) (pe_and (pe_cmpR o_isN (pv 2) pe_non (nomark _)) (pe_one (pe_cmpR (o_eq hu) (pe_callB (b_len) rfl T.b_len (by decide +kernel) (pa_cons (pv 1) pa_nil)) pe_int (nomark _)))) rfl))))), ?_⟩
  show (_ : Ends → L2.St → Hp → Prop) _ [some _, some _, some _, some _] _
  try dsimp only [L2H.cxH, cxOf]
  have hxp : x ≠ p := ne_of hx hp (by intro z; cases z)
  walk_at "w"
  intro q hq
  have hxq : x ≠ q := ne_of_none hx hq
  have hpq : p ≠ q := ne_of_none hp hq
  walk_at "w"
  cases og with
  | none =>
    obtain rfl : vg = .non := hg
    walk_at "w"
    refine k q _ hq ⟨dx, .non, vi, decide ((us.length : Int) = 0), upd_same, by simp, rfl, hi, upd_get (Ne.symm hxq) (upd_get (Ne.symm hxq) (upd_get (Ne.symm hxq) (upd_get (Ne.symm hxq) upd_same)))⟩ (Kp.mut (Kp.mut (Kp.mut (Kp.mut (Kp.own Kp.refl hq) (List.mem_singleton.mpr rfl)) (List.mem_singleton.mpr rfl)) (List.mem_singleton.mpr rfl)) (List.mem_singleton.mpr rfl))
  | some g =>
    obtain rfl : vg = .int g := hg
    walk_at "w"
    refine k q _ hq ⟨dx, .int g, vi, false, upd_same, by simp, rfl, hi, upd_get (Ne.symm hxq) (upd_get (Ne.symm hxq) (upd_get (Ne.symm hxq) (upd_get (Ne.symm hxq) upd_same)))⟩ (Kp.mut (Kp.mut (Kp.mut (Kp.mut (Kp.own Kp.refl hq) (List.mem_singleton.mpr rfl)) (List.mem_singleton.mpr rfl)) (List.mem_singleton.mpr rfl)) (List.mem_singleton.mpr rfl))
/-- what `Verdict(..)` asks -/
theorem mk_verdict {a : AD} {p : Addr} {us : List Int} {vg vi : V} {og oi : Option Int} {H : Hp} {Q : Addr → Hp → Prop} {E : XK} (hp : H p = some (.lst (us.map V.int))) (hg : NoV vg og) (hi : NoV vi oi) (k : ∀ (x q : Addr) (H' : Hp), H x = none → H q = none → VdO a H' x q us og oi → Kp [] H H' → Q x H') :
    ∀ x dx, H x = none → H dx = none → dx ≠ x → sp_Verdict___init__ a (.ref x :: [.ref p, vg, vi]) (upd (upd H dx (.own x)) x (.ins a.Verdict dx [])) (fun v H2 => v = .non ∧ Q x H2) E := by
  intro x dx hx hdx hne
  have kx : Kp [] H (upd (upd H dx (.own x)) x (.ins a.Verdict dx [])) := (Kp.refl.new hdx).own hx
  refine ⟨x, dx, p, us, vg, vi, og, oi, rfl, upd_same, kx.at0 hp, hg, hi, fun q H' hq hV k1 => ⟨rfl, ?_⟩⟩
  have k0 : Kp [] H H' := fun b o e _ => k1 b o (kx.at0 e) (by simp; intro z; subst z; rw [hx] at e; cases e)
  exact k x q H' hx (kx.free hq) hV k0
/-- the least gap that is not joined -/
def fsG (n : Int) (s : List Int × List Int × List Bool) : Option Nat := (List.range (n + 1).toNat).find? fun i : Nat => !decide (stateOf s.1 s.2.1 (i : Int) = ("joined" : Str))
theorem fsG_some {n : Int} {s : List Int × List Int × List Bool} {i : Nat} (h1 : (i : Int) ≤ n) (h2 : stateOf s.1 s.2.1 (i : Int) ≠ ("joined" : Str)) (h3 : ∀ j : Nat, j < i → stateOf s.1 s.2.1 (j : Int) = ("joined" : Str)) : fsG n s = some i := by
  unfold fsG
  rw [List.find?_range_eq_some]
  refine ⟨by simpa using h2, List.mem_range.mpr (by omega), fun j hj => ?_⟩
  simpa using h3 j hj
theorem fsG_none {n : Int} {s : List Int × List Int × List Bool} (h : ∀ j : Nat, (j : Int) ≤ n → stateOf s.1 s.2.1 (j : Int) = ("joined" : Str)) : fsG n s = none := by
  unfold fsG
  rw [List.find?_eq_none]
  intro j hj
  have hj := List.mem_range.mp hj
  simpa using h j (by omega)
/-- the verdict's gap and index -/
def vdG (n : Int) (log : List Int) : Option Int := (fsG n (runS (s0 n) log)).map fun i : Nat => (i : Int)
def vdI (n : Int) (log : List Int) : Option Int := (fsG n (runS (s0 n) log)).map fun i : Nat => decF (s0 n) log (i : Int) log.length
theorem runS_full {n : Int} {log : List Int} (n0 : 0 ≤ n) (n1 : n ≤ 60) (hok : okTo n (s0 n) log log.length) : WFs n (runS (s0 n) log) := by
  have := runS_wf (wfs0 n0 n1) log.length (Nat.le_refl _) hok
  rwa [List.take_length] at this
def sp_verdict (a : AD) : Sp := fun vs H Q E => ∃ (n : Int) (p : Addr) (log : List Int), vs = [.int n, .ref p] ∧ H p = some (.lst (log.map V.int)) ∧ log.length ≤ 100000 ∧ logSp a n log H E (∀ (x q : Addr) (H' : Hp), Kp [] H H' → VdO a H' x q (outL n (runS (s0 n) log).2.2) (vdG n log) (vdI n log) → Q (.ref x) H')
theorem sc_verdict : FnScope ["size", "log", "links", "states", "gap", "state"] ["size", "log"] (defScope s_verdict) := ⟨rfl, rfl, rfl, by decide +kernel, rfl, by decide +kernel, by decide +kernel⟩
theorem ok_verdict {P : Program} {w : World} {K : PySem.W.Frag} {mg : Str → Option Value} {base : Heap} {a : AD} (T : Txt P K mg a) (G_replay : FnA P w K mg base 5 a.f_replay ["size", "log"] (sp_replay a)) (G_gap_states : FnA P w K mg base 5 a.f_gap_states ["links"] (sp_gap_states a)) (G_Verdict___init__ : FnA P w K mg base 2 a.f_Verdict___init__ ["self", "out_nodes", "gap", "index"] (sp_Verdict___init__ a)) (G_Links_outs : FnA P w K mg base 2 a.f_Links_outs ["self"] (sp_Links_outs a)) (G_decided_by : FnA P w K mg base 5 a.f_decided_by ["size", "log", "gap"] (sp_decided_by a)) : FnA P w K mg base 6 a.f_verdict ["size", "log"] (sp_verdict a) := by
  obtain ⟨fd, F, b⟩ := T.F_verdict
  refine FnA.of F sc_verdict b (fun vs H Q E h => by first | (obtain ⟨rfl, _⟩ := h; rfl) | (obtain ⟨_, rfl, _⟩ := h; rfl) | (obtain ⟨_, _, rfl, _⟩ := h; rfl) | (obtain ⟨_, _, _, rfl, _⟩ := h; rfl) | (obtain ⟨_, _, _, _, rfl, _⟩ := h; rfl) | (obtain ⟨_, _, _, _, _, rfl, _⟩ := h; rfl) | (obtain ⟨_, _, _, _, _, _, rfl, _⟩ := h; rfl) | (obtain ⟨_, _, _, _, _, _, _, rfl, _⟩ := h; rfl) | (obtain ⟨_, _, _, _, _, _, _, _, rfl, _⟩ := h; rfl) | (obtain ⟨_, _, _, _, _, _, _, _, _, rfl, _⟩ := h; rfl) | (obtain ⟨_, _, _, _, _, _, _, _, _, _, rfl, _⟩ := h; rfl) | (obtain ⟨_, _, _, _, _, _, _, _, _, _, _, rfl, _⟩ := h; rfl) | (obtain ⟨_, _, _, _, _, _, _, _, _, _, _, _, rfl, _⟩ := h; rfl) | (obtain ⟨_, _, _, _, _, _, _, _, _, _, _, _, _, rfl, _⟩ := h; rfl) | (obtain ⟨_, _, _, _, _, _, _, _, _, _, _, _, _, _, rfl, _⟩ := h; rfl) | (obtain ⟨_, _, _, _, _, _, _, _, _, _, _, _, _, _, _, rfl, _⟩ := h; rfl) | (obtain ⟨_, _, _, _, _, _, _, _, _, _, _, _, _, _, _, _, rfl, _⟩ := h; rfl) | (obtain ⟨_, _, _, _, _, _, _, _, _, _, _, _, _, _, _, _, _, rfl, _⟩ := h; rfl) | (obtain ⟨_, _, _, _, _, _, _, _, _, _, _, _, _, _, _, _, _, _, rfl, _⟩ := h; rfl) | (obtain ⟨_, _, _, _, _, _, _, _, _, _, _, _, _, _, _, _, _, _, _, rfl, _⟩ := h; rfl) | (obtain ⟨_, _, _, _, _, _, _, _, _, _, _, _, _, _, _, _, _, _, _, _, rfl, _⟩ := h; rfl) | (obtain ⟨_, _, _, _, _, _, _, _, _, _, _, _, _, _, _, _, _, _, _, _, _, rfl, _⟩ := h; rfl) | (obtain ⟨_, _, _, _, _, _, _, _, _, _, _, _, _, _, _, _, _, _, _, _, _, _, rfl, _⟩ := h; rfl) | (obtain ⟨_, _, _, _, _, _, _, _, _, _, _, _, _, _, _, _, _, _, _, _, _, _, _, rfl, _⟩ := h; rfl)) (fun cdv A outer s H vs Q E hr tk pz h => ?_)
  have hu := hr.units
  have hrH := L2H.roomH_of hr
  obtain ⟨n, p, log, rfl, hp, hlen, hs, h⟩ := h
  refine ⟨_, (pss_cons (ps_set (i := 2) sc_verdict.nd rfl (Or.inl rfl) (pe_callA G_replay (Room.mono hr (by decide)) T.n_replay tk (pa_cons (pv 0) (pa_cons (pv 1) pa_nil))))
      (pss_cons (ps_set (i := 3) sc_verdict.nd rfl (Or.inl rfl) (pe_callA G_gap_states (Room.mono hr (by decide)) T.n_gap_states tk (pa_cons (pv 2) pa_nil)))
      (pss_cons (ps_for pz rfl (pi_enum rfl T.b_enumerate (pa_cons (pv 3) pa_nil)) (pg_tup (n := 2) rfl (pgs_cons (pg_name (i := 4) sc_verdict.nd rfl (Or.inl rfl)) (pgs_cons (pg_name (i := 5) sc_verdict.nd rfl (Or.inl rfl)) pgs_nil)))
      (pss_one (ps_if (pt_cmpA (o_ne hu) (pv 5) pe_str (nomark _)) (pss_one (ps_ret (pe_makeS G_Verdict___init__ T.mk_Verdict (Room.mono hr (by decide)) T.c_Verdict tk (pa_cons (pe_methS0 (pl := _) G_Links_outs (Room.mono hr (by decide)) T.cl_Links T.me_Links_outs tk (pv 2)) (pa_cons (pv 4) (pa_cons (pe_callA G_decided_by (Room.mono hr (by decide)) T.n_decided_by tk (pa_cons (pv 0) (pa_cons (pv 1) (pa_cons (pv 4) pa_nil)))) pa_nil)))))) pss_nil)))
      (pss_one (ps_ret (pe_makeS G_Verdict___init__ T.mk_Verdict (Room.mono hr (by decide)) T.c_Verdict tk (pa_cons (pe_methS0 (pl := _) G_Links_outs (Room.mono hr (by decide)) T.cl_Links T.me_Links_outs tk (pv 2)) (pa_cons pe_non (pa_cons pe_non pa_nil))))))))), ?_⟩
  show (_ : Ends → L2.St → Hp → Prop) _ [some _, some _, none, none, none, none] _
  try dsimp only [L2H.cxH, cxOf]
  walk_at "w"
  refine ⟨n, p, log, rfl, hp, hlen, hs, fun n0 n1 => ⟨(h n0 n1).1, (h n0 n1).2.1, fun hok x l r f H1 hx hl hr hf hL k1 => ?_⟩⟩
  have k := (h n0 n1).2.2 hok
  have W := runS_full n0 n1 hok
  walk_at "w"
  refine ⟨x, l, r, f, n, _, _, _, rfl, hL.obj W, fun q H2 hq k2 hq2 => ?_⟩
  rw [states_app W] at hq2
  have hsl := statesOf_len n (runS (s0 n) log).1 (runS (s0 n) log).2.1
  walk_at "w"
  refine w_enumM (us := statesOf n (runS (s0 n) log).1 (runS (s0 n) log).2.1) (f := V.str) (p := q) hq2 (fun i σ' H' => (∃ z1 z2, σ' = [some (.int n), some (.ref p), some (.ref x), some (.ref q), z1, z2]) ∧ Kp [] H2 H' ∧ ∀ j : Nat, j < i → stateOf (runS (s0 n) log).1 (runS (s0 n) log).2.1 (j : Int) = ("joined" : Str)) ⟨⟨_, _, rfl⟩, Kp.refl, fun j hj => by omega⟩ (fun i σ' H' _ h => h.2.1.at0 hq2) ?_ ?_
  · rintro i u T σ' H' hu ⟨⟨z1, z2, rfl⟩, hk, hj⟩ hT
    have hil : i < (statesOf n (runS (s0 n) log).1 (runS (s0 n) log).2.1).length := (List.getElem?_eq_some_iff.mp hu).1
    rw [statesOf_get (by omega)] at hu
    obtain rfl := Option.some.inj hu
    have hkT := hk.new (o := .tup [.int (i : Int), .str (stateOf (runS (s0 n) log).1 (runS (s0 n) log).2.1 (i : Int))]) hT
    generalize upd H' T (.tup [.int (i : Int), .str (stateOf (runS (s0 n) log).1 (runS (s0 n) log).2.1 (i : Int))]) = H3 at hkT ⊢
    have k23 := k2.trans0 hkT
    have hL3 := hL.kp0 k23
    have hx3 := hL3.1.choose_spec
    walk_at "w"
    refine w_iteN (fun c => ?_) (fun c => ?_)
    · walk_at "w"
      refine ⟨x, l, r, f, n, _, rfl, hL3, W, fun o H4 ho k4 ho4 => ?_⟩
      have k14 := (k1.trans0 k23).trans0 k4
      walk_at "w"
      refine ⟨n, i, p, log, rfl, k14.at0 hp, by omega, log_ok n0 n1 hok ⟨fun z => absurd ⟨by omega, by omega⟩ z, fun _ _ H5 k5 => ?_⟩⟩
      have ho5 := k5.at0 ho4
      have ef := fsG_some (n := n) (by omega) c hj
      walk_at "w"
      refine mk_verdict (og := vdG n log) (oi := vdI n log) ho5 ?_ ?_ (fun y q2 H6 hy hq6 hV k6 => ?_)
      · unfold vdG; rw [ef]; rfl
      · unfold vdI; rw [ef]; rfl
      exact k y q2 H6 ((k14.trans0 k5).trans0 k6) hV
    · walk_at "w"
      refine ⟨⟨_, _, rfl⟩, hkT, fun j hj' => ?_⟩
      by_cases z : j < i
      · exact hj j z
      · obtain rfl : j = i := by omega
        exact c
  · rintro σ' H' ⟨⟨z1, z2, rfl⟩, hk, hj⟩
    have k12 := k2.trans0 hk
    have hL3 := hL.kp0 k12
    have hx3 := hL3.1.choose_spec
    have ef := fsG_none (n := n) (s := runS (s0 n) log) (fun j hj' => hj j (by omega))
    walk_at "w"
    refine ⟨x, l, r, f, n, _, rfl, hL3, W, fun o H4 ho k4 ho4 => ?_⟩
    walk_at "w"
    refine mk_verdict (og := vdG n log) (oi := vdI n log) ho4 ?_ ?_ (fun y q2 H6 hy hq6 hV k6 => ?_)
    · unfold vdG; rw [ef]; rfl
    · unfold vdI; rw [ef]; rfl
    exact k y q2 H6 (((k1.trans0 k12).trans0 k4).trans0 k6) hV
/-- the certificate of a gap -/
def papR (n : Int) (log : List Int) (g : Int) : List V := [.str (stateOf (runS (s0 n) log).1 (runS (s0 n) log).2.1 g), .int ((wrR (s0 n) log n log.length).getD g.toNat default), .int ((wrL (s0 n) log n log.length).getD g.toNat default)]
def sp_gap_certificate (a : AD) : Sp := fun vs H Q E => ∃ (n g : Int) (p : Addr) (log : List Int), vs = [.int n, .ref p, .int g] ∧ H p = some (.lst (log.map V.int)) ∧ log.length ≤ 100000 ∧ logSp a n log H E ((¬(0 ≤ g ∧ g ≤ n) → ∀ H', Kp [] H H' → xBadGap a (.int g) E H') ∧ (0 ≤ g → g ≤ n → ∀ t H', H t = none → Kp [] H H' → H' t = some (.tup (papR n log g)) → Q (.ref t) H'))
theorem sc_gap_certificate : FnScope ["size", "log", "gap", "right_writes", "left_writes", "state"] ["size", "log", "gap"] (defScope s_gap_certificate) := ⟨rfl, rfl, rfl, by decide +kernel, rfl, by decide +kernel, by decide +kernel⟩
theorem ok_gap_certificate {P : Program} {w : World} {K : PySem.W.Frag} {mg : Str → Option Value} {base : Heap} {a : AD} (T : Txt P K mg a) (G_writers : FnA P w K mg base 6 a.f_writers ["size", "log"] (sp_writers a)) (G_check_gap : FnA P w K mg base 2 a.f_check_gap ["size", "gap"] (sp_check_gap a)) (G_gap_state : FnA P w K mg base 4 a.f_gap_state ["links", "gap"] (sp_gap_state a)) (G_replay : FnA P w K mg base 5 a.f_replay ["size", "log"] (sp_replay a)) : FnA P w K mg base 7 a.f_gap_certificate ["size", "log", "gap"] (sp_gap_certificate a) := by
  obtain ⟨fd, F, b⟩ := T.F_gap_certificate
  refine FnA.of F sc_gap_certificate b (fun vs H Q E h => by first | (obtain ⟨rfl, _⟩ := h; rfl) | (obtain ⟨_, rfl, _⟩ := h; rfl) | (obtain ⟨_, _, rfl, _⟩ := h; rfl) | (obtain ⟨_, _, _, rfl, _⟩ := h; rfl) | (obtain ⟨_, _, _, _, rfl, _⟩ := h; rfl) | (obtain ⟨_, _, _, _, _, rfl, _⟩ := h; rfl) | (obtain ⟨_, _, _, _, _, _, rfl, _⟩ := h; rfl) | (obtain ⟨_, _, _, _, _, _, _, rfl, _⟩ := h; rfl) | (obtain ⟨_, _, _, _, _, _, _, _, rfl, _⟩ := h; rfl) | (obtain ⟨_, _, _, _, _, _, _, _, _, rfl, _⟩ := h; rfl) | (obtain ⟨_, _, _, _, _, _, _, _, _, _, rfl, _⟩ := h; rfl) | (obtain ⟨_, _, _, _, _, _, _, _, _, _, _, rfl, _⟩ := h; rfl) | (obtain ⟨_, _, _, _, _, _, _, _, _, _, _, _, rfl, _⟩ := h; rfl) | (obtain ⟨_, _, _, _, _, _, _, _, _, _, _, _, _, rfl, _⟩ := h; rfl) | (obtain ⟨_, _, _, _, _, _, _, _, _, _, _, _, _, _, rfl, _⟩ := h; rfl) | (obtain ⟨_, _, _, _, _, _, _, _, _, _, _, _, _, _, _, rfl, _⟩ := h; rfl) | (obtain ⟨_, _, _, _, _, _, _, _, _, _, _, _, _, _, _, _, rfl, _⟩ := h; rfl) | (obtain ⟨_, _, _, _, _, _, _, _, _, _, _, _, _, _, _, _, _, rfl, _⟩ := h; rfl) | (obtain ⟨_, _, _, _, _, _, _, _, _, _, _, _, _, _, _, _, _, _, rfl, _⟩ := h; rfl) | (obtain ⟨_, _, _, _, _, _, _, _, _, _, _, _, _, _, _, _, _, _, _, rfl, _⟩ := h; rfl) | (obtain ⟨_, _, _, _, _, _, _, _, _, _, _, _, _, _, _, _, _, _, _, _, rfl, _⟩ := h; rfl) | (obtain ⟨_, _, _, _, _, _, _, _, _, _, _, _, _, _, _, _, _, _, _, _, _, rfl, _⟩ := h; rfl) | (obtain ⟨_, _, _, _, _, _, _, _, _, _, _, _, _, _, _, _, _, _, _, _, _, _, rfl, _⟩ := h; rfl) | (obtain ⟨_, _, _, _, _, _, _, _, _, _, _, _, _, _, _, _, _, _, _, _, _, _, _, rfl, _⟩ := h; rfl)) (fun cdv A outer s H vs Q E hr tk pz h => ?_)
  have hu := hr.units
  have hrH := L2H.roomH_of hr
  obtain ⟨n, g, p, log, rfl, hp, hlen, hs, h⟩ := h
  refine ⟨_, (pss_cons (ps_asg (pe_callA G_writers (Room.mono hr (by decide)) T.n_writers tk (pa_cons (pv 0) (pa_cons (pv 1) pa_nil))) (pg_tup (n := 2) rfl (pgs_cons (pg_name (i := 3) sc_gap_certificate.nd rfl (Or.inl rfl)) (pgs_cons (pg_name (i := 4) sc_gap_certificate.nd rfl (Or.inl rfl)) pgs_nil))))
      (pss_cons (ps_expr (pe_callA G_check_gap (Room.mono hr (by decide)) T.n_check_gap tk (pa_cons (pv 0) (pa_cons (pv 2) pa_nil))))
      (pss_cons (ps_set (i := 5) sc_gap_certificate.nd rfl (Or.inl rfl) (pe_callA G_gap_state (Room.mono hr (by decide)) T.n_gap_state tk (pa_cons (pe_callA G_replay (Room.mono hr (by decide)) T.n_replay tk (pa_cons (pv 0) (pa_cons (pv 1) pa_nil))) (pa_cons (pv 2) pa_nil))))
      (pss_one (ps_ret (pe_tup (pa_cons (pv 5) (pa_cons (pe_ix ix_seq (pv 3) (pv 2) (fun _ _ => rfl)) (pa_cons (pe_ix ix_seq (pv 4) (pv 2) (fun _ _ => rfl)) pa_nil))))))))), ?_⟩
  show (_ : Ends → L2.St → Hp → Prop) _ [some _, some _, some _, none, none, none] _
  try dsimp only [L2H.cxH, cxOf]
  walk_at "w"
  refine ⟨n, p, log, rfl, hp, hlen, hs, fun n0 n1 => ⟨(h n0 n1).1, (h n0 n1).2.1, fun hok q r l H1 hq hr hl hrl k1 hq1 hr1 hl1 => ?_⟩⟩
  obtain ⟨hg, k⟩ := (h n0 n1).2.2 hok
  have W := runS_full n0 n1 hok
  have eR := wrR_len (s0 n) log n log.length
  have eL := wrL_len (s0 n) log n log.length
  walk_at "w"
  refine ⟨n, g, rfl, fun z => hg z H1 k1, fun g0 g1 => ?_⟩
  walk_at "w"
  refine ⟨n, p, log, rfl, k1.at0 hp, hlen, log_ok n0 n1 hok (fun x xl xr xf H2 hx hxl hxr hxf hL k2 => ?_)⟩
  have hr2 := k2.at0 hr1
  have hl2 := k2.at0 hl1
  walk_at "w"
  refine ⟨x, xl, xr, xf, n, g, _, _, _, rfl, hL.obj W, fun z => absurd ⟨g0, g1⟩ z, fun _ _ => ?_⟩
  rw [gap_app W g0 g1]
  walk_at "w"
  intro t ht
  exact k g0 g1 t _ (k1.free (k2.free ht)) ((k1.trans0 k2).new ht) upd_same
/-! ### judging a certificate -/
def isI : V → Bool
  | .int _ => true
  | _ => false
def sp__is_integer (a : AD) : Sp := fun vs H Q _ => ∃ v, vs = [v] ∧ okV v = true ∧ Q (.bl (isI v)) H
theorem sc__is_integer : FnScope ["value"] ["value"] (defScope s__is_integer) := ⟨rfl, rfl, rfl, by decide +kernel, rfl, by decide +kernel, by decide +kernel⟩
theorem ok__is_integer {P : Program} {w : World} {K : PySem.W.Frag} {mg : Str → Option Value} {base : Heap} {a : AD} (T : Txt P K mg a) : FnA P w K mg base 2 a.f__is_integer ["value"] (sp__is_integer a) := by
  obtain ⟨fd, F, b⟩ := T.F__is_integer
  refine FnA.of F sc__is_integer b (fun vs H Q E h => by first | (obtain ⟨rfl, _⟩ := h; rfl) | (obtain ⟨_, rfl, _⟩ := h; rfl) | (obtain ⟨_, _, rfl, _⟩ := h; rfl) | (obtain ⟨_, _, _, rfl, _⟩ := h; rfl) | (obtain ⟨_, _, _, _, rfl, _⟩ := h; rfl) | (obtain ⟨_, _, _, _, _, rfl, _⟩ := h; rfl) | (obtain ⟨_, _, _, _, _, _, rfl, _⟩ := h; rfl) | (obtain ⟨_, _, _, _, _, _, _, rfl, _⟩ := h; rfl) | (obtain ⟨_, _, _, _, _, _, _, _, rfl, _⟩ := h; rfl) | (obtain ⟨_, _, _, _, _, _, _, _, _, rfl, _⟩ := h; rfl) | (obtain ⟨_, _, _, _, _, _, _, _, _, _, rfl, _⟩ := h; rfl) | (obtain ⟨_, _, _, _, _, _, _, _, _, _, _, rfl, _⟩ := h; rfl) | (obtain ⟨_, _, _, _, _, _, _, _, _, _, _, _, rfl, _⟩ := h; rfl) | (obtain ⟨_, _, _, _, _, _, _, _, _, _, _, _, _, rfl, _⟩ := h; rfl) | (obtain ⟨_, _, _, _, _, _, _, _, _, _, _, _, _, _, rfl, _⟩ := h; rfl) | (obtain ⟨_, _, _, _, _, _, _, _, _, _, _, _, _, _, _, rfl, _⟩ := h; rfl) | (obtain ⟨_, _, _, _, _, _, _, _, _, _, _, _, _, _, _, _, rfl, _⟩ := h; rfl) | (obtain ⟨_, _, _, _, _, _, _, _, _, _, _, _, _, _, _, _, _, rfl, _⟩ := h; rfl) | (obtain ⟨_, _, _, _, _, _, _, _, _, _, _, _, _, _, _, _, _, _, rfl, _⟩ := h; rfl) | (obtain ⟨_, _, _, _, _, _, _, _, _, _, _, _, _, _, _, _, _, _, _, rfl, _⟩ := h; rfl) | (obtain ⟨_, _, _, _, _, _, _, _, _, _, _, _, _, _, _, _, _, _, _, _, rfl, _⟩ := h; rfl) | (obtain ⟨_, _, _, _, _, _, _, _, _, _, _, _, _, _, _, _, _, _, _, _, _, rfl, _⟩ := h; rfl) | (obtain ⟨_, _, _, _, _, _, _, _, _, _, _, _, _, _, _, _, _, _, _, _, _, _, rfl, _⟩ := h; rfl) | (obtain ⟨_, _, _, _, _, _, _, _, _, _, _, _, _, _, _, _, _, _, _, _, _, _, _, rfl, _⟩ := h; rfl)) (fun cdv A outer s H vs Q E hr tk pz h => ?_)
  have hu := hr.units
  have hrH := L2H.roomH_of hr
  obtain ⟨v, rfl, hv, k⟩ := h
  refine ⟨_, (pss_one (ps_ret (pe_and (pe_callB (call_isi) rfl T.b_isinstance (by decide +kernel) (pa_cons (pv 0) (pa_cons (pe_bltn (v := .ty "int") rfl T.b_int (by decide +kernel) rfl) pa_nil))) (pe_one (pe_not (pe_callB (call_isi) rfl T.b_isinstance (by decide +kernel) (pa_cons (pv 0) (pa_cons (pe_bltn (v := .ty "bool") rfl T.b_bool (by decide +kernel) rfl) pa_nil)))))))), ?_⟩
  show (_ : Ends → L2.St → Hp → Prop) _ [some _] _
  try dsimp only [L2H.cxH, cxOf]
  cases v with
  | int i => walk_at "w"; exact k
  | str x => walk_at "w"; exact k
  | bl b => walk_at "w"; exact k
  | non => walk_at "w"; exact k
  | byt b => exact absurd hv Bool.false_ne_true
  | flt b => exact absurd hv Bool.false_ne_true
  | ref p => exact absurd hv Bool.false_ne_true
  | ty t => exact absurd hv Bool.false_ne_true
def jr : V → V → V → Str → Int → Int → Bool
  | .str x, .int a, .int b => fun s i j => decide (x = s ∧ a = i ∧ b = j)
  | _, _, _ => fun _ _ _ => false
/-- what the judge asks of a value -/
inductive Sh (H : Hp) : V → (Str → Int → Int → Bool) → Prop
  | int (k : Int) : Sh H (.int k) (fun _ _ _ => false)
  | str (x : Str) : Sh H (.str x) (fun _ _ _ => false)
  | non : Sh H .non (fun _ _ _ => false)
  | lst {p : Addr} {xs : List V} : H p = some (.lst xs) → Sh H (.ref p) (fun _ _ _ => false)
  | tup {p : Addr} {vs : List V} : H p = some (.tup vs) → vs.length ≠ 3 → Sh H (.ref p) (fun _ _ _ => false)
  | tri {p : Addr} {x y z : V} : H p = some (.tup [x, y, z]) → ([x, y, z]).all okV = true → Sh H (.ref p) (jr x y z)
theorem Sh.kp0 {H H' : Hp} {v : V} {f : Str → Int → Int → Bool} (h : Sh H v f) (k : Kp [] H H') : Sh H' v f := by
  cases h with
  | int k => exact .int k
  | str x => exact .str x
  | non => exact .non
  | lst e => exact .lst (k.at0 e)
  | tup e n => exact .tup (k.at0 e) n
  | tri e n => exact .tri (k.at0 e) n
theorem eqv_tri {x s : Str} {a b i j : Int} : PyData.eqv (.tuple [.str x, .int a, .int b]) (.tuple [.str s, .int i, .int j]) = decide (x = s ∧ a = i ∧ b = j) := by
  simp only [PyData.eqv, PyData.eqvAll, Bool.and_true]
  by_cases z1 : x = s <;> by_cases z2 : a = i <;> by_cases z3 : b = j <;> simp [z1, z2, z3]
theorem pap_ok {n : Int} {log : List Int} {g : Int} : (papR n log g).all okV = true := by
  have e : PyData.strOk (stateOf (runS (s0 n) log).1 (runS (s0 n) log).2.1 g) = true := by
    unfold stateOf
    split <;> split <;> decide +kernel
  simp [papR, okV, e]
def sp_is_gap_certificate (a : AD) : Sp := fun vs H Q E => ∃ (n g : Int) (p : Addr) (log : List Int) (v : V) (f : Str → Int → Int → Bool), vs = [.int n, .ref p, .int g, v] ∧ H p = some (.lst (log.map V.int)) ∧ log.length ≤ 100000 ∧ Sh H v f ∧ logSp a n log H E ((¬(0 ≤ g ∧ g ≤ n) → ∀ H', Kp [] H H' → xBadGap a (.int g) E H') ∧ (0 ≤ g → g ≤ n → ∀ H', Kp [] H H' → Q (.bl (f (stateOf (runS (s0 n) log).1 (runS (s0 n) log).2.1 g) ((wrR (s0 n) log n log.length).getD g.toNat default) ((wrL (s0 n) log n log.length).getD g.toNat default))) H'))
theorem sc_is_gap_certificate : FnScope ["size", "log", "gap", "value", "due", "state", "right_write", "left_write"] ["size", "log", "gap", "value"] (defScope s_is_gap_certificate) := ⟨rfl, rfl, rfl, by decide +kernel, rfl, by decide +kernel, by decide +kernel⟩
theorem ok_is_gap_certificate {P : Program} {w : World} {K : PySem.W.Frag} {mg : Str → Option Value} {base : Heap} {a : AD} (T : Txt P K mg a) (G_gap_certificate : FnA P w K mg base 7 a.f_gap_certificate ["size", "log", "gap"] (sp_gap_certificate a)) (G__is_integer : FnA P w K mg base 2 a.f__is_integer ["value"] (sp__is_integer a)) : FnA P w K mg base 8 a.f_is_gap_certificate ["size", "log", "gap", "value"] (sp_is_gap_certificate a) := by
  obtain ⟨fd, F, b⟩ := T.F_is_gap_certificate
  refine FnA.of F sc_is_gap_certificate b (fun vs H Q E h => by first | (obtain ⟨rfl, _⟩ := h; rfl) | (obtain ⟨_, rfl, _⟩ := h; rfl) | (obtain ⟨_, _, rfl, _⟩ := h; rfl) | (obtain ⟨_, _, _, rfl, _⟩ := h; rfl) | (obtain ⟨_, _, _, _, rfl, _⟩ := h; rfl) | (obtain ⟨_, _, _, _, _, rfl, _⟩ := h; rfl) | (obtain ⟨_, _, _, _, _, _, rfl, _⟩ := h; rfl) | (obtain ⟨_, _, _, _, _, _, _, rfl, _⟩ := h; rfl) | (obtain ⟨_, _, _, _, _, _, _, _, rfl, _⟩ := h; rfl) | (obtain ⟨_, _, _, _, _, _, _, _, _, rfl, _⟩ := h; rfl) | (obtain ⟨_, _, _, _, _, _, _, _, _, _, rfl, _⟩ := h; rfl) | (obtain ⟨_, _, _, _, _, _, _, _, _, _, _, rfl, _⟩ := h; rfl) | (obtain ⟨_, _, _, _, _, _, _, _, _, _, _, _, rfl, _⟩ := h; rfl) | (obtain ⟨_, _, _, _, _, _, _, _, _, _, _, _, _, rfl, _⟩ := h; rfl) | (obtain ⟨_, _, _, _, _, _, _, _, _, _, _, _, _, _, rfl, _⟩ := h; rfl) | (obtain ⟨_, _, _, _, _, _, _, _, _, _, _, _, _, _, _, rfl, _⟩ := h; rfl) | (obtain ⟨_, _, _, _, _, _, _, _, _, _, _, _, _, _, _, _, rfl, _⟩ := h; rfl) | (obtain ⟨_, _, _, _, _, _, _, _, _, _, _, _, _, _, _, _, _, rfl, _⟩ := h; rfl) | (obtain ⟨_, _, _, _, _, _, _, _, _, _, _, _, _, _, _, _, _, _, rfl, _⟩ := h; rfl) | (obtain ⟨_, _, _, _, _, _, _, _, _, _, _, _, _, _, _, _, _, _, _, rfl, _⟩ := h; rfl) | (obtain ⟨_, _, _, _, _, _, _, _, _, _, _, _, _, _, _, _, _, _, _, _, rfl, _⟩ := h; rfl) | (obtain ⟨_, _, _, _, _, _, _, _, _, _, _, _, _, _, _, _, _, _, _, _, _, rfl, _⟩ := h; rfl) | (obtain ⟨_, _, _, _, _, _, _, _, _, _, _, _, _, _, _, _, _, _, _, _, _, _, rfl, _⟩ := h; rfl) | (obtain ⟨_, _, _, _, _, _, _, _, _, _, _, _, _, _, _, _, _, _, _, _, _, _, _, rfl, _⟩ := h; rfl)) (fun cdv A outer s H vs Q E hr tk pz h => ?_)
  have hu := hr.units
  have hrH := L2H.roomH_of hr
  obtain ⟨n, g, p, log, v, f, rfl, hp, hlen, hv, hs, h⟩ := h
  refine ⟨_, (pss_cons (ps_set (i := 4) sc_is_gap_certificate.nd rfl (Or.inl rfl) (pe_callA G_gap_certificate (Room.mono hr (by decide)) T.n_gap_certificate tk (pa_cons (pv 0) (pa_cons (pv 1) (pa_cons (pv 2) pa_nil)))))
      (pss_cons (ps_if (PW.pt (pw_or (pt_not (pt_tru (pe_callB (call_isi) rfl T.b_isinstance (by decide +kernel) (pa_cons (pv 3) (pa_cons (pe_bltn (v := .ty "tuple") rfl T.b_tuple (by decide +kernel) rfl) pa_nil))))) (pw_or1 (pt_cmpA (o_ne hu) (pe_callB (b_len) rfl T.b_len (by decide +kernel) (pa_cons (pv 3) pa_nil)) pe_int (nomark _))))) (pss_one (ps_ret pe_bl)) pss_nil)
      (pss_cons (ps_asg (pv 3) (pg_tup (n := 3) rfl (pgs_cons (pg_name (i := 5) sc_is_gap_certificate.nd rfl (Or.inl rfl)) (pgs_cons (pg_name (i := 6) sc_is_gap_certificate.nd rfl (Or.inl rfl)) (pgs_cons (pg_name (i := 7) sc_is_gap_certificate.nd rfl (Or.inl rfl)) pgs_nil)))))
      (pss_cons (ps_if (PW.pt (pw_or (pt_not (pt_tru (pe_callB (call_isi) rfl T.b_isinstance (by decide +kernel) (pa_cons (pv 5) (pa_cons (pe_bltn (v := .ty "str") rfl T.b_str (by decide +kernel) rfl) pa_nil))))) (pw_or (pt_not (pt_tru (pe_callA G__is_integer (Room.mono hr (by decide)) T.n__is_integer tk (pa_cons (pv 6) pa_nil)))) (pw_or1 (pt_not (pt_tru (pe_callA G__is_integer (Room.mono hr (by decide)) T.n__is_integer tk (pa_cons (pv 7) pa_nil)))))))) (pss_one (ps_ret pe_bl)) pss_nil)
      (pss_one (ps_ret (pe_cmpR (o_eq hu) (pv 3) (pv 4) (nomark _)))))))), ?_⟩
  show (_ : Ends → L2.St → Hp → Prop) _ [some _, some _, some _, some _, none, none, none, none] _
  try dsimp only [L2H.cxH, cxOf]
  walk_at "w"
  refine ⟨n, g, p, log, rfl, hp, hlen, hs, fun n0 n1 => ⟨(h n0 n1).1, (h n0 n1).2.1, fun hok => ⟨((h n0 n1).2.2 hok).1, fun g0 g1 t H1 ht k1 ht1 => ?_⟩⟩⟩
  have k := ((h n0 n1).2.2 hok).2 g0 g1 H1 k1
  have hv1 := hv.kp0 k1
  have hok3 := pap_ok (n := n) (log := log) (g := g)
  clear hv h hs
  walk_at "w"
  cases hv1 with
  | int i => walk_at "w"; exact k
  | str x => walk_at "w"; exact k
  | non => walk_at "w"; exact k
  | lst e => walk_at "w"; exact k
  | tup e hn =>
    walk_at "w"
    exact k
  | tri e hall =>
    rename_i q x y z
    have hx : okV x = true := by simp at hall; exact hall.1
    have hy : okV y = true := by simp at hall; exact hall.2.1
    have hz : okV z = true := by simp at hall; exact hall.2.2
    walk_at "w"
    cases x with
    | byt b => exact absurd hx Bool.false_ne_true
    | flt b => exact absurd hx Bool.false_ne_true
    | ref p => exact absurd hx Bool.false_ne_true
    | ty t => exact absurd hx Bool.false_ne_true
    | int i => walk_at "w"; exact k
    | bl i =>
      refine w_isiB (show kitB "bool" "str" = some false by decide +kernel) ?_
      walk_at "w"
      exact k
    | non => walk_at "w"; exact k
    | str s =>
      walk_at "w"
      refine ⟨y, rfl, hy, ?_⟩
      cases y with
      | byt b => exact absurd hy Bool.false_ne_true
      | flt b => exact absurd hy Bool.false_ne_true
      | ref p => exact absurd hy Bool.false_ne_true
      | ty t => exact absurd hy Bool.false_ne_true
      | str i => walk_at "w"; exact k
      | bl i => walk_at "w"; exact k
      | non => walk_at "w"; exact k
      | int i =>
        walk_at "w"
        refine ⟨z, rfl, hz, ?_⟩
        cases z with
        | byt b => exact absurd hz Bool.false_ne_true
        | flt b => exact absurd hz Bool.false_ne_true
        | ref p => exact absurd hz Bool.false_ne_true
        | ty t => exact absurd hz Bool.false_ne_true
        | str i => walk_at "w"; exact k
        | bl i => walk_at "w"; exact k
        | non => walk_at "w"; exact k
        | int j =>
          walk_at "w"
          refine w_eqV (DV.tup e (DvAll.row hall)) (DV.tup ht1 (DvAll.row hok3)) ?_
          rw [show PyData.eqv (.tuple (([.str s, .int i, .int j] : List V).map datV)) (.tuple ((papR n log g).map datV)) = _ from eqv_tri]
          exact k
/-- a value that the law compares -/
def okN : V → Bool
  | .int _ => true
  | .str x => PyData.strOk x
  | .non => true
  | _ => false
def rowF : List V → Str → Int → Int → Bool
  | [x, y, z] => jr x y z
  | _ => fun _ _ _ => false
inductive CV (H : Hp) : V → (Str → Int → Int → Bool) → Prop
  | int (k : Int) : CV H (.int k) (fun _ _ _ => false)
  | str {x : Str} : PyData.strOk x = true → CV H (.str x) (fun _ _ _ => false)
  | non : CV H .non (fun _ _ _ => false)
  | row {p : Addr} {vs : List V} : H p = some (.tup vs) → vs.all okN = true → CV H (.ref p) (rowF vs)
  | lrow {p : Addr} {x : Str} {vs : List V} : H p = some (.lst (.str x :: vs)) → (V.str x :: vs).all okN = true → CV H (.ref p) (fun _ _ _ => false)
  | lref {p q : Addr} {vs : List V} : H p = some (.lst [.ref q]) → H q = some (.tup vs) → vs.all okN = true → CV H (.ref p) (fun _ _ _ => false)
  | tref {p q : Addr} {pre vs : List V} : H p = some (.tup (pre ++ [.ref q])) → pre.all okN = true → pre.length ≠ 2 → H q = some (.tup vs) → vs.all okN = true → CV H (.ref p) (fun _ _ _ => false)
theorem okN_V {vs : List V} (h : vs.all okN = true) : vs.all okV = true := by
  rw [List.all_eq_true] at h ⊢
  intro v hv
  have := h v hv
  cases v <;> simp_all [okN, okV]
theorem CV.kp0 {H H' : Hp} {v : V} {f : Str → Int → Int → Bool} (h : CV H v f) (k : Kp [] H H') : CV H' v f := by
  cases h with
  | int k => exact .int k
  | str x => exact .str x
  | non => exact .non
  | row e n => exact .row (k.at0 e) n
  | lrow e n => exact .lrow (k.at0 e) n
  | lref e e2 n => exact .lref (k.at0 e) (k.at0 e2) n
  | tref e n m e2 n2 => exact .tref (k.at0 e) n m (k.at0 e2) n2
theorem CV.kpB {H H' : Hp} {b : Addr} {v : V} {f : Str → Int → Int → Bool} (h : CV H v f) (B : Bag H b) (k : Kp [b] H H') : CV H' v f := by
  obtain ⟨c, m, j, hb, _⟩ := B
  have kt : ∀ {p vs}, H p = some (.tup vs) → H' p = some (.tup vs) := fun {p vs} e => k p _ e (by
    simp only [List.mem_singleton]
    rintro rfl
    rw [hb] at e; cases e)
  have kl : ∀ {p xs}, H p = some (.lst xs) → (∀ i rest, xs ≠ V.int i :: rest) → H' p = some (.lst xs) := fun {p xs} e hn => k p _ e (by
    simp only [List.mem_singleton]
    rintro rfl
    rw [hb] at e
    cases e
    exact hn _ _ rfl)
  cases h with
  | int k => exact .int k
  | str x => exact .str x
  | non => exact .non
  | row e n => exact .row (kt e) n
  | lrow e n => exact .lrow (kl e (fun i rest z => by cases z)) n
  | lref e e2 n => exact .lref (kl e (fun i rest z => by cases z)) (kt e2) n
  | tref e n m e2 n2 => exact .tref (kt e) n m (kt e2) n2
theorem CV.sh {H : Hp} {v : V} {f : Str → Int → Int → Bool} (h : CV H v f) : Sh H v f := by
  cases h with
  | int k => exact .int k
  | str x => exact .str _
  | non => exact .non
  | lrow e n => exact .lst e
  | lref e e2 n => exact .lst e
  | tref e n m e2 n2 => exact .tup e (by simpa using m)
  | row e n =>
    rename_i p vs
    match vs, e, n with
    | [], e, n => exact .tup e (by simp)
    | [x], e, n => exact .tup e (by simp)
    | [x, y], e, n => exact .tup e (by simp)
    | [x, y, z], e, n => exact .tri e (okN_V n)
    | x :: y :: z :: w :: r, e, n => exact .tup e (by simp)
theorem jr_eq {x y z : V} {s : Str} {i j : Int} (h : ([x, y, z]).all okN = true) : PyData.eqv (.tuple (([x, y, z]).map datV)) (.tuple [.str s, .int i, .int j]) = jr x y z s i j := by
  cases x <;> cases y <;> cases z <;> first
    | exact eqv_tri
    | (simp [okN] at h; done)
    | (simp [okN] at h; simp [jr, datV, PyData.eqv, PyData.eqvAll]; done)
    | (simp [jr, datV, PyData.eqv, PyData.eqvAll]; done)
theorem CV.eq {K : PySem.W.Frag} {H : Hp} {v : V} {f : Str → Int → Int → Bool} {t : Addr} {s : Str} {i j : Int} {Q : VK} (h : CV H v f) (ht : H t = some (.tup [.str s, .int i, .int j])) (hs : PyData.strOk s = true) (k : Q (.bl (f s i j)) H) : aEq K v (.ref t) H Q := by
  have hd : DV K H 10 (.ref t) (.tuple [.str s, .int i, .int j]) := DV.tup ht (DvAll.row (vs := [.str s, .int i, .int j]) (by simp [okV, hs]))
  cases h with
  | int k' => exact w_eqV (.int k') hd (by rw [show PyData.eqv (.int k') (.tuple [.str s, .int i, .int j]) = false by simp [PyData.eqv]]; exact k)
  | str x => exact w_eqV (.str x) hd (by rw [show PyData.eqv (.str _) (.tuple [.str s, .int i, .int j]) = false by simp [PyData.eqv]]; exact k)
  | non => exact w_eqV .non hd (by rw [show PyData.eqv .none (.tuple [.str s, .int i, .int j]) = false by simp [PyData.eqv]]; exact k)
  | lrow e n => exact w_eqV (DV.lst e (DvAll.row (okN_V n))) hd (by rw [show ∀ ds, PyData.eqv (.list ds) (.tuple [.str s, .int i, .int j]) = false by intro ds; simp [PyData.eqv]]; exact k)
  | lref e e2 n => exact w_eqV (DV.lst e (DvAll.cons (DV.tup e2 (DvAll.row (n := 8) (okN_V n))) .nil)) hd (by rw [show ∀ ds, PyData.eqv (.list ds) (.tuple [.str s, .int i, .int j]) = false by intro ds; simp [PyData.eqv]]; exact k)
  | tref e n m e2 n2 =>
    rename_i p q pre vs
    have hall : DvAll K H 9 (pre ++ [.ref q]) (pre.map datV ++ [.tuple (vs.map datV)]) := by
      clear e m k
      induction pre with
      | nil => exact DvAll.cons (DV.tup e2 (DvAll.row (n := 8) (okN_V n2))) .nil
      | cons x pre ih =>
        rw [List.all_cons, Bool.and_eq_true] at n
        refine DvAll.cons ?_ (ih n.2)
        have := DvAll.row (K := K) (H := H) (n := 9) (vs := [x]) (okN_V (by rw [List.all_cons, n.1]; rfl))
        obtain ⟨a1, a2, a3⟩ := this
        cases a1 with
        | cons b1 _ => exact ⟨b1, by simp [PyData.canLayAll0] at a2; exact a2, by simp [PyData.depthAll] at a3; exact a3⟩
    exact w_eqV (DV.tup e hall) hd (by rw [show PyData.eqv (.tuple (pre.map datV ++ [.tuple (vs.map datV)])) (.tuple [.str s, .int i, .int j]) = false by rw [PyData.eqv]; exact eqvAll_len (by simp; omega)]; exact k)
  | row e n =>
    rename_i p vs
    refine w_eqV (DV.tup e (DvAll.row (okN_V n))) hd ?_
    match vs, n with
    | [], n => rw [show PyData.eqv (.tuple (([] : List V).map datV)) (.tuple [.str s, .int i, .int j]) = false by rw [PyData.eqv]; exact eqvAll_len (by simp)]; exact k
    | [x], n => rw [show PyData.eqv (.tuple (([x] : List V).map datV)) (.tuple [.str s, .int i, .int j]) = false by rw [PyData.eqv]; exact eqvAll_len (by simp)]; exact k
    | [x, y], n => rw [show PyData.eqv (.tuple (([x, y] : List V).map datV)) (.tuple [.str s, .int i, .int j]) = false by rw [PyData.eqv]; exact eqvAll_len (by simp)]; exact k
    | [x, y, z], n => rw [jr_eq n]; exact k
    | x :: y :: z :: w :: r, n => rw [show PyData.eqv (.tuple ((x :: y :: z :: w :: r : List V).map datV)) (.tuple [.str s, .int i, .int j]) = false by rw [PyData.eqv]; exact eqvAll_len (by simp)]; exact k
/-! ### the law's own book -/
def stl (t : List Int × List Int × List Bool) (log : List Int) (n : Int) : Nat → List Int
  | 0 => List.replicate (n + 1).toNat (-1)
  | i + 1 =>
    let a1 := if stAt t log (i + 1) (loAt t log i) = stAt t log i (loAt t log i) then stl t log n i else (stl t log n i).set (loAt t log i).toNat (i : Int)
    if stAt t log (i + 1) (hiAt t log i) = stAt t log i (hiAt t log i) then a1 else a1.set (hiAt t log i).toNat (i : Int)
theorem stl_len (t : List Int × List Int × List Bool) (log : List Int) (n : Int) : ∀ i, (stl t log n i).length = (n + 1).toNat
  | 0 => by simp [stl]
  | i + 1 => by
    rw [stl]
    split <;> split <;> simp [stl_len t log n i]
/-- an operation changes the state of its two gaps alone -/
theorem stAt_other {n : Int} {t : List Int × List Int × List Bool} {log : List Int} (W : WFs n t) (hok : okTo n t log log.length) {i : Nat} {u : Int} (hu : log[i]? = some u) {g : Int} (g0 : 0 ≤ g) (z1 : g ≠ loAt t log i) (z2 : g ≠ hiAt t log i) : stAt t log (i + 1) g = stAt t log i g := by
  obtain ⟨hO, Wi, _⟩ := ok_at W hok hu
  unfold loAt at z1
  unfold hiAt at z2
  rw [gD_some hu] at z1 z2
  rw [stAt_succ hu]
  exact ap_other Wi hO.1 g0 z1 z2
theorem decF_stl {n : Int} {t : List Int × List Int × List Bool} {log : List Int} (W : WFs n t) (hok : okTo n t log log.length) {g : Int} (g0 : 0 ≤ g) (g1 : g ≤ n) : ∀ i, i ≤ log.length → (stl t log n i).getD g.toNat default = decF t log g i
  | 0, _ => by
    show (List.replicate (n + 1).toNat (-1 : Int)).getD g.toNat default = -1
    exact rep_get (by omega)
  | i + 1, hi => by
    have hu : log[i]? = some log[i] := List.getElem?_eq_getElem (by omega)
    have ih := decF_stl W hok g0 g1 i (by omega)
    have hl := stl_len t log n i
    obtain ⟨_, _, _, _, b1, b2, b3, b4⟩ := ok_at W hok hu
    rw [stl, decF]
    by_cases z1 : g = loAt t log i
    · rw [← z1] at b1 b2 ⊢
      have hne : (hiAt t log i).toNat ≠ g.toNat := by omega
      by_cases c : stAt t log (i + 1) g = stAt t log i g
      · rw [if_pos c, if_pos c]
        split
        · exact ih
        · rw [getD_set_ne hne]; exact ih
      · rw [if_neg c, if_neg c]
        split
        · exact getD_set_eq (by omega)
        · rw [getD_set_ne hne]; exact getD_set_eq (by omega)
    · have hne1 : (loAt t log i).toNat ≠ g.toNat := by omega
      have e1 : (if stAt t log (i + 1) (loAt t log i) = stAt t log i (loAt t log i) then stl t log n i else (stl t log n i).set (loAt t log i).toNat (i : Int)).getD g.toNat default = decF t log g i := by
        split
        · exact ih
        · rw [getD_set_ne hne1]; exact ih
      have e2 : (if stAt t log (i + 1) (loAt t log i) = stAt t log i (loAt t log i) then stl t log n i else (stl t log n i).set (loAt t log i).toNat (i : Int)).length = (n + 1).toNat := by
        split <;> simp [hl]
      generalize (if stAt t log (i + 1) (loAt t log i) = stAt t log i (loAt t log i) then stl t log n i else (stl t log n i).set (loAt t log i).toNat (i : Int)) = a1 at e1 e2 ⊢
      by_cases z2 : g = hiAt t log i
      · rw [← z2]
        by_cases c : stAt t log (i + 1) g = stAt t log i g
        · rw [if_pos c, if_pos c]; exact e1
        · rw [if_neg c, if_neg c]
          exact getD_set_eq (by omega)
      · rw [if_pos (stAt_other W hok hu g0 z1 z2)]
        have hne2 : (hiAt t log i).toNat ≠ g.toNat := by omega
        split
        · exact e1
        · rw [getD_set_ne hne2]; exact e1
theorem Wd.mut {H : Hp} {w r l f p : Addr} {n : Int} {R L : List Int} {F : List Bool} {o : HO} (h : Wd H w r l f n R L F) (hp : p ∉ [w, r, l, f]) : Wd (upd H p o) w r l f n R L F :=
  h.kpS (Kp.refl.mut (ms := [p]) (by simp)) (nm_swap hp)
theorem wr_ge (t : List Int × List Int × List Bool) (log : List Int) (n : Int) : ∀ i, (∀ x ∈ wrR t log n i, -1 ≤ x ∧ x < (i : Int)) ∧ (∀ x ∈ wrL t log n i, -1 ≤ x ∧ x < (i : Int))
  | 0 => ⟨fun x hx => by have := List.eq_of_mem_replicate (show x ∈ List.replicate (n + 1).toNat (-1) from hx); omega, fun x hx => by have := List.eq_of_mem_replicate (show x ∈ List.replicate (n + 1).toNat (-1) from hx); omega⟩
  | i + 1 => by
    obtain ⟨h1, h2⟩ := wr_ge t log n i
    refine ⟨fun x hx => ?_, fun x hx => ?_⟩
    · rw [wrR] at hx
      rcases List.mem_or_eq_of_mem_set hx with z | z
      · have := h1 x z; omega
      · omega
    · rw [wrL] at hx
      rcases List.mem_or_eq_of_mem_set hx with z | z
      · have := h2 x z; omega
      · omega
theorem getD_in {us : List Int} {i : Nat} (h : i < us.length) : us.getD i default ∈ us := by
  rw [List.getD_eq_getElem?_getD, List.getElem?_eq_getElem h]
  exact List.getElem_mem _
/-- the papers of all gaps -/
def papL (n : Int) (log : List Int) (k : Nat) : List (List V) := (List.range k).map fun i : Nat => papR n log (i : Int)
theorem papL_succ (n : Int) (log : List Int) (k : Nat) : papL n log (k + 1) = papL n log k ++ [papR n log (k : Int)] := by
  unfold papL
  rw [List.range_succ, List.map_append]; rfl
theorem papL_get {n : Int} {log : List Int} {k i : Nat} (h : i < k) : (papL n log k)[i]? = some (papR n log (i : Int)) := by
  unfold papL
  rw [List.getElem?_map, List.getElem?_range h]; rfl
def sp__law_book (a : AD) : Sp := fun vs H Q _ => ∃ (n : Int) (p : Addr) (log : List Int), vs = [.int n, .ref p] ∧ 0 ≤ n ∧ n ≤ 60 ∧ H p = some (.lst (log.map V.int)) ∧ log.length ≤ 1000 ∧ okTo n (s0 n) log log.length ∧
  ∀ (bk pp st gn : Addr) (xs : List V) (H' : Hp), H bk = none → H' bk = some (.lst [.ref pp, .ref st, .ref gn]) → H' pp = some (.lst xs) → Tps H' xs (papL n log (n + 1).toNat) → H' st = some (.lst ((stl (s0 n) log n log.length).map V.int)) → H' gn = some (.lst ((outL n (runS (s0 n) log).2.2).map V.int)) → Kp [] H H' → Q (.ref bk) H'
theorem sc__law_book : FnScope ["_law_size_here", "_law_deeds", "_law_world", "_law_node", "_law_by_right", "_law_by_left", "_law_settled", "_law_k", "_law_low", "_law_high", "_law_before", "_law_place", "_law_papers", "_law_gone"] ["_law_size_here", "_law_deeds"] (defScope s__law_book) := ⟨rfl, rfl, rfl, by decide +kernel, rfl, by decide +kernel, by decide +kernel⟩
theorem ok__law_book {P : Program} {w : World} {K : PySem.W.Frag} {mg : Str → Option Value} {base : Heap} {a : AD} (T : Txt P K mg a) (G__law_whole : FnA P w K mg base 2 a.f__law_whole ["_law_size_here"] (sp__law_whole a)) (G__law_state : FnA P w K mg base 2 a.f__law_state ["_law_world", "_law_place"] (sp__law_state a)) (G__law_step : FnA P w K mg base 2 a.f__law_step ["_law_world", "_law_deed"] (sp__law_step a)) : FnA P w K mg base 3 a.f__law_book ["_law_size_here", "_law_deeds"] (sp__law_book a) := by
  obtain ⟨fd, F, b⟩ := T.F__law_book
  refine FnA.of F sc__law_book b (fun vs H Q E h => by first | (obtain ⟨rfl, _⟩ := h; rfl) | (obtain ⟨_, rfl, _⟩ := h; rfl) | (obtain ⟨_, _, rfl, _⟩ := h; rfl) | (obtain ⟨_, _, _, rfl, _⟩ := h; rfl) | (obtain ⟨_, _, _, _, rfl, _⟩ := h; rfl) | (obtain ⟨_, _, _, _, _, rfl, _⟩ := h; rfl) | (obtain ⟨_, _, _, _, _, _, rfl, _⟩ := h; rfl) | (obtain ⟨_, _, _, _, _, _, _, rfl, _⟩ := h; rfl) | (obtain ⟨_, _, _, _, _, _, _, _, rfl, _⟩ := h; rfl) | (obtain ⟨_, _, _, _, _, _, _, _, _, rfl, _⟩ := h; rfl) | (obtain ⟨_, _, _, _, _, _, _, _, _, _, rfl, _⟩ := h; rfl) | (obtain ⟨_, _, _, _, _, _, _, _, _, _, _, rfl, _⟩ := h; rfl) | (obtain ⟨_, _, _, _, _, _, _, _, _, _, _, _, rfl, _⟩ := h; rfl) | (obtain ⟨_, _, _, _, _, _, _, _, _, _, _, _, _, rfl, _⟩ := h; rfl) | (obtain ⟨_, _, _, _, _, _, _, _, _, _, _, _, _, _, rfl, _⟩ := h; rfl) | (obtain ⟨_, _, _, _, _, _, _, _, _, _, _, _, _, _, _, rfl, _⟩ := h; rfl) | (obtain ⟨_, _, _, _, _, _, _, _, _, _, _, _, _, _, _, _, rfl, _⟩ := h; rfl) | (obtain ⟨_, _, _, _, _, _, _, _, _, _, _, _, _, _, _, _, _, rfl, _⟩ := h; rfl) | (obtain ⟨_, _, _, _, _, _, _, _, _, _, _, _, _, _, _, _, _, _, rfl, _⟩ := h; rfl) | (obtain ⟨_, _, _, _, _, _, _, _, _, _, _, _, _, _, _, _, _, _, _, rfl, _⟩ := h; rfl) | (obtain ⟨_, _, _, _, _, _, _, _, _, _, _, _, _, _, _, _, _, _, _, _, rfl, _⟩ := h; rfl) | (obtain ⟨_, _, _, _, _, _, _, _, _, _, _, _, _, _, _, _, _, _, _, _, _, rfl, _⟩ := h; rfl) | (obtain ⟨_, _, _, _, _, _, _, _, _, _, _, _, _, _, _, _, _, _, _, _, _, _, rfl, _⟩ := h; rfl) | (obtain ⟨_, _, _, _, _, _, _, _, _, _, _, _, _, _, _, _, _, _, _, _, _, _, _, rfl, _⟩ := h; rfl)) (fun cdv A outer s H vs Q E hr tk pz h => ?_)
  have hu := hr.units
  have hrH := L2H.roomH_of hr
  obtain ⟨n, p, log, rfl, n0, n1, hp, hlen, hok, k⟩ := h
  refine ⟨_, (pss_cons (ps_set (i := 2) sc__law_book.nd rfl (Or.inr rfl) (pe_callA G__law_whole (Room.mono hr (by decide)) T.n__law_whole tk (pa_cons (pv 0) pa_nil)))
      (pss_cons (ps_set (i := 4) sc__law_book.nd rfl (Or.inr rfl) (pe_lc (own := [("_law_node", 3)]) (g := (gName 3)) (tt := tYes) rfl sc__law_book.nd (pi_range1 rfl T.b_range (pa_cons (pe_op o_add (pv 0) pe_int) pa_nil)) (blkOk_by (own := [("_law_node", 3)]) (N := ["_law_size_here", "_law_deeds", "_law_world", "_law_node", "_law_by_right", "_law_by_left", "_law_settled", "_law_k", "_law_low", "_law_high", "_law_before", "_law_place", "_law_papers", "_law_gone"]) (sc := defScope s__law_book) (by decide +kernel)) (fun _ _ _ _ _ => (pg_name (i := 3) sc__law_book.nd rfl (Or.inl rfl))) (fun _ _ _ _ _ => pts_nil) (fun _ _ _ _ _ => (pe_un un_neg pe_int))))
      (pss_cons (ps_set (i := 5) sc__law_book.nd rfl (Or.inr rfl) (pe_lc (own := [("_law_node", 3)]) (g := (gName 3)) (tt := tYes) rfl sc__law_book.nd (pi_range1 rfl T.b_range (pa_cons (pe_op o_add (pv 0) pe_int) pa_nil)) (blkOk_by (own := [("_law_node", 3)]) (N := ["_law_size_here", "_law_deeds", "_law_world", "_law_node", "_law_by_right", "_law_by_left", "_law_settled", "_law_k", "_law_low", "_law_high", "_law_before", "_law_place", "_law_papers", "_law_gone"]) (sc := defScope s__law_book) (by decide +kernel)) (fun _ _ _ _ _ => (pg_name (i := 3) sc__law_book.nd rfl (Or.inl rfl))) (fun _ _ _ _ _ => pts_nil) (fun _ _ _ _ _ => (pe_un un_neg pe_int))))
      (pss_cons (ps_setLc (i := 6) (own := [("_law_node", 3)]) (g := (gName 3)) (tt := tYes) rfl sc__law_book.nd rfl rfl (sw_true rfl rfl rfl (by decide +kernel)) (pi_range1 rfl T.b_range (pa_cons (pe_op o_add (pv 0) pe_int) pa_nil)) (blkOk_by (own := [("_law_node", 3)]) (N := ["_law_size_here", "_law_deeds", "_law_world", "_law_node", "_law_by_right", "_law_by_left", "_law_settled", "_law_k", "_law_low", "_law_high", "_law_before", "_law_place", "_law_papers", "_law_gone"]) (sc := defScope s__law_book) (by decide +kernel)) (fun _ _ _ _ _ => (pg_name (i := 3) sc__law_book.nd rfl (Or.inl rfl))) (fun _ _ _ _ _ => pts_nil) (fun _ _ _ _ _ => (pe_un un_neg pe_int)))
      (pss_cons (ps_for pz rfl (pi_range1 rfl T.b_range (pa_cons (pe_callB (b_len) rfl T.b_len (by decide +kernel) (pa_cons (pv 1) pa_nil)) pa_nil)) (pg_name (i := 7) sc__law_book.nd rfl (Or.inl rfl))
      (pss_cons (ps_set (i := 3) sc__law_book.nd rfl (Or.inl rfl) (pe_callB (b_abs) rfl T.b_abs (by decide +kernel) (pa_cons (pe_ix ix_seq (pv 1) (pv 7) (fun _ _ => rfl)) pa_nil)))
      (pss_cons (ps_set (i := 8) sc__law_book.nd rfl (Or.inl rfl) (pe_ix ix_seq (pe_ix ix_seq (pv 2) pe_int (fun _ _ => rfl)) (pv 3) (fun _ _ => rfl)))
      (pss_cons (ps_set (i := 9) sc__law_book.nd rfl (Or.inl rfl) (pe_op op_sub (pe_ix ix_seq (pe_ix ix_seq (pv 2) pe_int (fun _ _ => rfl)) (pv 3) (fun _ _ => rfl)) pe_int))
      (pss_cons (ps_set (i := 10) sc__law_book.nd rfl (Or.inl rfl) (pe_lst (pa_cons (pe_callA G__law_state (Room.mono hr (by decide)) T.n__law_state tk (pa_cons (pv 2) (pa_cons (pv 8) pa_nil))) (pa_cons (pe_callA G__law_state (Room.mono hr (by decide)) T.n__law_state tk (pa_cons (pv 2) (pa_cons (pv 9) pa_nil))) pa_nil))))
      (pss_cons (ps_expr (pe_callA G__law_step (Room.mono hr (by decide)) T.n__law_step tk (pa_cons (pv 2) (pa_cons (pe_ix ix_seq (pv 1) (pv 7) (fun _ _ => rfl)) pa_nil))))
      (pss_cons (ps_asg (pv 7) (pg_sub (pv 4) (pv 8) set_list))
      (pss_cons (ps_asg (pv 7) (pg_sub (pv 5) (pv 9) set_list))
      (pss_cut (ps_if (pt_cmpA (o_ne hu) (pe_ix ix_seq (pv 10) pe_int (fun _ _ => rfl)) (pe_callA G__law_state (Room.mono hr (by decide)) T.n__law_state tk (pa_cons (pv 2) (pa_cons (pv 8) pa_nil))) (nomark _)) (pss_one (ps_asg (pv 7) (pg_sub (pv 6) (pv 8) set_list))) pss_nil)
      (pss_one (ps_if (pt_cmpA (o_ne hu) (pe_ix ix_seq (pv 10) pe_int (fun _ _ => rfl)) (pe_callA G__law_state (Room.mono hr (by decide)) T.n__law_state tk (pa_cons (pv 2) (pa_cons (pv 9) pa_nil))) (nomark _)) (pss_one (ps_asg (pv 7) (pg_sub (pv 6) (pv 9) set_list))) pss_nil)))))))))))
      (pss_cons (ps_setLc (i := 12) (own := [("_law_place", 11)]) (g := (gName 11)) (tt := tYes) rfl sc__law_book.nd rfl rfl (sw_true rfl rfl rfl (by decide +kernel)) (pi_range1 rfl T.b_range (pa_cons (pe_op o_add (pv 0) pe_int) pa_nil)) (blkOk_by (own := [("_law_place", 11)]) (N := ["_law_size_here", "_law_deeds", "_law_world", "_law_node", "_law_by_right", "_law_by_left", "_law_settled", "_law_k", "_law_low", "_law_high", "_law_before", "_law_place", "_law_papers", "_law_gone"]) (sc := defScope s__law_book) (by decide +kernel)) (fun _ _ _ _ _ => (pg_name (i := 11) sc__law_book.nd rfl (Or.inl rfl))) (fun _ _ _ _ _ => pts_nil) (fun _ _ _ _ _ => (pe_tup (pa_cons (pe_callA G__law_state (Room.mono hr (by decide)) T.n__law_state takes0 (pa_cons (pv 2) (pa_cons (pv 11) pa_nil))) (pa_cons (pe_ix (show IxR _ (rIx K) from ix_seq) (pv 4) (pv 11) (fun _ _ => rfl)) (pa_cons (pe_ix (show IxR _ (rIx K) from ix_seq) (pv 5) (pv 11) (fun _ _ => rfl)) pa_nil))))))
      (pss_cons (ps_setLc (i := 13) (own := [("_law_node", 3)]) (g := (gName 3)) rfl sc__law_book.nd rfl rfl (sw_true rfl rfl rfl (by decide +kernel)) (pi_range2 rfl T.b_range (pa_cons pe_int (pa_cons (pe_op o_add (pv 0) pe_int) pa_nil))) (blkOk_by (own := [("_law_node", 3)]) (N := ["_law_size_here", "_law_deeds", "_law_world", "_law_node", "_law_by_right", "_law_by_left", "_law_settled", "_law_k", "_law_low", "_law_high", "_law_before", "_law_place", "_law_papers", "_law_gone"]) (sc := defScope s__law_book) (by decide +kernel)) (fun _ _ _ _ _ => (pg_name (i := 3) sc__law_book.nd rfl (Or.inl rfl))) (fun _ _ _ _ _ => (pts_one (show PT _ _ (cTru K _) from (pt_tru (pe_ix (show IxR _ (rIx K) from ix_seq) (pe_ix (show IxR _ (rIx K) from ix_seq) (pv 2) pe_int (fun _ _ => rfl)) (pv 3) (fun _ _ => rfl)))))) (fun _ _ _ _ _ => (pv 3)))
      (pss_one (ps_ret (pe_lst (pa_cons (pv 12) (pa_cons (pv 6) (pa_cons (pv 13) pa_nil))))))))))))), ?_⟩
  show (_ : Ends → L2.St → Hp → Prop) _ [some _, some _, none, none, none, none, none, none, none, none, none, none, none, none] _
  try dsimp only [L2H.cxH, cxOf]
  have W0 := wfs0 n0 n1
  walk_at "w"
  refine ⟨n, rfl, n0, n1, fun w wr wl wf H1 hw hwr hwl hwf hW k1 => ?_⟩
  walk_at "w"
  refine w_lcR1 (f' := V.int) (fun i : Nat => some (-1)) (n := n + 1) (by omega) (by omega) (by rw [sizeLine_eq]; omega) ?_ ?_
  · intro D i acc H' hD hi hk hA hlen
    walk_at "w"
    refine ⟨rfl, ?_⟩
    walk_at "w"
    exact w_keep hk hA hlen hD rfl
  intro rr H2 hrr k2 hrr2
  rw [fm_rep] at hrr2
  have nrr := nm_of hrr hW.live
  have hrrH := k1.free hrr
  have hW2 := hW.kp0 k2
  walk_at "w"
  refine w_lcR1 (f' := V.int) (fun i : Nat => some (-1)) (n := n + 1) (by omega) (by omega) (by rw [sizeLine_eq]; omega) ?_ ?_
  · intro D i acc H' hD hi hk hA hlen
    walk_at "w"
    refine ⟨rfl, ?_⟩
    walk_at "w"
    exact w_keep hk hA hlen hD rfl
  intro ll H3 hll k3 hll3
  rw [fm_rep] at hll3
  have nll := nm_of hll hW2.live
  have hllH := k1.free (k2.free hll)
  have rl : rr ≠ ll := ne_of_none hrr2 hll
  have hW3 := hW2.kp0 k3
  have hrr3 := k3.at0 hrr2
  walk_at "w"
  refine w_lcR1 (f' := V.int) (fun i : Nat => some (-1)) (n := n + 1) (by omega) (by omega) (by rw [sizeLine_eq]; omega) ?_ ?_
  · intro D i acc H' hD hi hk hA hlen
    walk_at "w"
    refine ⟨rfl, ?_⟩
    walk_at "w"
    exact w_keep hk hA hlen hD rfl
  intro st H4 hst k4 hst4
  rw [fm_rep] at hst4
  have nst := nm_of hst hW3.live
  have hstH := k1.free (k2.free (k3.free hst))
  have rs : rr ≠ st := ne_of_none hrr3 hst
  have ls : ll ≠ st := ne_of_none hll3 hst
  have hW4 := hW3.kp0 k4
  have hrr4 := k4.at0 hrr3
  have hll4 := k4.at0 hll3
  have k04 := ((k1.trans0 k2).trans0 k3).trans0 k4
  have hp4 := k04.at0 hp
  have wfr : ∀ y ∈ [wr, wl, wf], H y = none := by
    intro y hy
    simp only [List.mem_cons, List.mem_nil_iff, or_false] at hy
    rcases hy with rfl | rfl | rfl <;> assumption
  clear k1 k2 k3 k4 hW hW2 hW3 hrr hll hst hrr2 hrr3 hll3
  walk_at "w"
  refine w_rng1 (n := (log.length : Int)) (by omega) (by omega) (fun i σ' H' => ∃ (z3 z7 z8 z9 z10 : Option V), σ' = [some (.int n), some (.ref p), some (.ref w), z3, some (.ref rr), some (.ref ll), some (.ref st), z7, z8, z9, z10, none, none, none] ∧ Kp [] H H' ∧ Wd H' w wr wl wf n (runS (s0 n) (log.take i)).1 (runS (s0 n) (log.take i)).2.1 (runS (s0 n) (log.take i)).2.2 ∧ H' rr = some (.lst ((wrR (s0 n) log n i).map V.int)) ∧ H' ll = some (.lst ((wrL (s0 n) log n i).map V.int)) ∧ H' st = some (.lst ((stl (s0 n) log n i).map V.int))) ⟨_, _, _, _, _, rfl, k04, hW4, hrr4, hll4, hst4⟩ ?_ ?_
  · rintro i σ' H5 hi ⟨z3, z7, z8, z9, z10, rfl, k5, hW5, hrr5, hll5, hst5⟩
    have hu : log[i]? = some log[i] := List.getElem?_eq_getElem (by omega)
    generalize log[i] = u at hu
    have hgu : log.getD i default = u := gD_some hu
    obtain ⟨hO, Wi, v1, v2, b1, b2, b3, b4⟩ := ok_at W0 hok hu
    have hRl := WF.hR Wi
    have hLl := WF.hL Wi
    have elo : loAt (s0 n) log i = (runS (s0 n) (log.take i)).2.1.getD u.natAbs default := by unfold loAt; rw [hgu]
    have ehi : hiAt (s0 n) log i = (runS (s0 n) (log.take i)).1.getD u.natAbs default - 1 := by unfold hiAt; rw [hgu]
    have hp5 := k5.at0 hp
    obtain ⟨hw5, hr5, hl5, hf5, _⟩ := id hW5
    walk_at "w"
    rw [Int.toNat_natCast, hgu]
    walk_at "w"
    rw [Int.toNat_natCast, ← elo, ← ehi]
    walk_at "w"
    refine ⟨w, wr, wl, wf, n, loAt (s0 n) log i, _, _, _, rfl, hW5, b1, by omega, by omega, ?_⟩
    walk_at "w"
    refine ⟨w, wr, wl, wf, n, hiAt (s0 n) log i, _, _, _, rfl, hW5, by omega, by omega, by omega, ?_⟩
    walk_at "w"
    intro bf hbf
    have kb := Kp.refl.new (ms := []) (o := .lst [.str (stateOf (runS (s0 n) (log.take i)).1 (runS (s0 n) (log.take i)).2.1 (loAt (s0 n) log i)), .str (stateOf (runS (s0 n) (log.take i)).1 (runS (s0 n) (log.take i)).2.1 (hiAt (s0 n) log i))]) hbf
    have hbf6 : upd H5 bf (.lst [.str (stateOf (runS (s0 n) (log.take i)).1 (runS (s0 n) (log.take i)).2.1 (loAt (s0 n) log i)), .str (stateOf (runS (s0 n) (log.take i)).1 (runS (s0 n) (log.take i)).2.1 (hiAt (s0 n) log i))]) bf = some (.lst ([stAt (s0 n) log i (loAt (s0 n) log i), stAt (s0 n) log i (hiAt (s0 n) log i)].map V.str)) := upd_same
    have k6 := k5.trans0 kb
    have hbfw : bf ∉ [wr, wl, wf] := nm_sub (nm_of hbf hW5.live) (by simp)
    have hbr : bf ≠ rr := Ne.symm (ne_of_none hrr5 hbf)
    have hbl : bf ≠ ll := Ne.symm (ne_of_none hll5 hbf)
    have hbs : bf ≠ st := Ne.symm (ne_of_none hst5 hbf)
    have hW6 := hW5.kp0 kb
    have hrr6 := kb.at0 hrr5
    have hll6 := kb.at0 hll5
    have hst6 := kb.at0 hst5
    generalize upd H5 bf (.lst [.str (stateOf (runS (s0 n) (log.take i)).1 (runS (s0 n) (log.take i)).2.1 (loAt (s0 n) log i)), .str (stateOf (runS (s0 n) (log.take i)).1 (runS (s0 n) (log.take i)).2.1 (hiAt (s0 n) log i))]) = H6 at hbf6 k6 hW6 hrr6 hll6 hst6 ⊢
    clear hW5 hrr5 hll5 hst5 k5 hp5 hw5 hr5 hl5 hf5 kb hbf
    have hp6 := k6.at0 hp
    walk_at "w"
    rw [Int.toNat_natCast, hgu]
    refine ⟨w, wr, wl, wf, n, u, _, _, _, rfl, hW6, Wi, hO.1, fun H7 hW7 W7 k7 => ?_⟩
    have k07 := kp_new3 k6 hwr hwl hwf k7
    have sub3 : ∀ z ∈ [wr, wl, wf], z ∈ [w, wr, wl, wf] := by simp
    have hrr7 := k7 rr _ hrr6 (nm_sub nrr sub3)
    have hll7 := k7 ll _ hll6 (nm_sub nll sub3)
    have hst7 := k7 st _ hst6 (nm_sub nst sub3)
    have hbf7 := k7 bf _ hbf6 hbfw
    have hR7 := W7.hR
    have hL7 := W7.hL
    clear k7 hW6 hrr6 hll6 hst6 hbf6 k6 hp6
    have eRl := wrR_len (s0 n) log n i
    have eLl := wrL_len (s0 n) log n i
    have eSl := stl_len (s0 n) log n i
    have bz : bf ≠ st := hbs
    walk_at "w"
    have hW9 := (hW7.mut (o := .lst (((wrR (s0 n) log n i).set (loAt (s0 n) log i).toNat (i : Int)).map V.int)) nrr).mut (o := .lst (((wrL (s0 n) log n i).set (hiAt (s0 n) log i).toNat (i : Int)).map V.int)) nll
    have k09 := (k07.own (o := .lst (((wrR (s0 n) log n i).set (loAt (s0 n) log i).toNat (i : Int)).map V.int)) hrrH).own (o := .lst (((wrL (s0 n) log n i).set (hiAt (s0 n) log i).toNat (i : Int)).map V.int)) hllH
    have hrr9 : (upd (upd H7 rr (.lst (((wrR (s0 n) log n i).set (loAt (s0 n) log i).toNat (i : Int)).map V.int))) ll (.lst (((wrL (s0 n) log n i).set (hiAt (s0 n) log i).toNat (i : Int)).map V.int))) rr = some (.lst (((wrR (s0 n) log n i).set (loAt (s0 n) log i).toNat (i : Int)).map V.int)) := upd_get rl upd_same
    have hll9 : (upd (upd H7 rr (.lst (((wrR (s0 n) log n i).set (loAt (s0 n) log i).toNat (i : Int)).map V.int))) ll (.lst (((wrL (s0 n) log n i).set (hiAt (s0 n) log i).toNat (i : Int)).map V.int))) ll = some (.lst (((wrL (s0 n) log n i).set (hiAt (s0 n) log i).toNat (i : Int)).map V.int)) := upd_same
    have hst9 : (upd (upd H7 rr (.lst (((wrR (s0 n) log n i).set (loAt (s0 n) log i).toNat (i : Int)).map V.int))) ll (.lst (((wrL (s0 n) log n i).set (hiAt (s0 n) log i).toNat (i : Int)).map V.int))) st = some (.lst ((stl (s0 n) log n i).map V.int)) := upd_get (Ne.symm ls) (upd_get (Ne.symm rs) hst7)
    have hbf9 : (upd (upd H7 rr (.lst (((wrR (s0 n) log n i).set (loAt (s0 n) log i).toNat (i : Int)).map V.int))) ll (.lst (((wrL (s0 n) log n i).set (hiAt (s0 n) log i).toNat (i : Int)).map V.int))) bf = _ := upd_get hbl (upd_get hbr hbf7)
    generalize (upd (upd H7 rr (.lst (((wrR (s0 n) log n i).set (loAt (s0 n) log i).toNat (i : Int)).map V.int))) ll (.lst (((wrL (s0 n) log n i).set (hiAt (s0 n) log i).toNat (i : Int)).map V.int))) = H9 at hW9 k09 hrr9 hll9 hst9 hbf9 ⊢
    clear hW7 k07 hrr7 hll7 hst7 hbf7
    have er : (wrR (s0 n) log n i).set (loAt (s0 n) log i).toNat (i : Int) = wrR (s0 n) log n (i + 1) := rfl
    have el : (wrL (s0 n) log n i).set (hiAt (s0 n) log i).toNat (i : Int) = wrL (s0 n) log n (i + 1) := rfl
    rw [er] at hrr9
    rw [el] at hll9
    have eS1 : stateOf (apR (runS (s0 n) (log.take i)).2.1 (runS (s0 n) (log.take i)).1 u) (apL (runS (s0 n) (log.take i)).2.1 (runS (s0 n) (log.take i)).1 u) (loAt (s0 n) log i) = stAt (s0 n) log (i + 1) (loAt (s0 n) log i) := (stAt_succ hu _).symm
    have eS2 : stateOf (apR (runS (s0 n) (log.take i)).2.1 (runS (s0 n) (log.take i)).1 u) (apL (runS (s0 n) (log.take i)).2.1 (runS (s0 n) (log.take i)).1 u) (hiAt (s0 n) log i) = stAt (s0 n) log (i + 1) (hiAt (s0 n) log i) := (stAt_succ hu _).symm
    refine s_cut (fun σ' H' => ∃ a1 : List Int, σ' = [some (.int n), some (.ref p), some (.ref w), some (.int (u.natAbs : Int)), some (.ref rr), some (.ref ll), some (.ref st), some (.int (i : Int)), some (.int (loAt (s0 n) log i)), some (.int (hiAt (s0 n) log i)), some (.ref bf), none, none, none] ∧ a1 = (if stAt (s0 n) log (i + 1) (loAt (s0 n) log i) = stAt (s0 n) log i (loAt (s0 n) log i) then stl (s0 n) log n i else (stl (s0 n) log n i).set (loAt (s0 n) log i).toNat (i : Int)) ∧ a1.length = (n + 1).toNat ∧ H' st = some (.lst (a1.map V.int)) ∧ Kp [] H H' ∧ Kp [st] H9 H') ?_ ?_
    · walk_at "w"
      refine ⟨w, wr, wl, wf, n, loAt (s0 n) log i, _, _, _, rfl, hW9, b1, by omega, by omega, ?_⟩
      rw [eS1]
      walk_at "w"
      refine w_iteN (fun c => ?_) (fun c => ?_)
      · walk_at "w"
        exact ⟨_, rfl, (if_neg (fun z => c z.symm)).symm, by rw [List.length_set, eSl], upd_same, k09.own hstH, Kp.refl.mut (by simp)⟩
      · walk_at "w"
        exact ⟨_, rfl, (if_pos c.symm).symm, eSl, hst9, k09, Kp.refl⟩
    rintro σ' H10 ⟨a1, rfl, ea1, ea1l, hst10, k010, k10⟩
    have hW10 := hW9.kpS k10 (nm_swap nst)
    have hbf10 := k10 bf _ hbf9 (by simpa using bz)
    have hrr10 := k10 rr _ hrr9 (by simpa using rs)
    have hll10 := k10 ll _ hll9 (by simpa using ls)
    have eW : Wd H10 w wr wl wf n (runS (s0 n) (log.take (i + 1))).1 (runS (s0 n) (log.take (i + 1))).2.1 (runS (s0 n) (log.take (i + 1))).2.2 := by rw [take_snoc hu, runS_snoc]; exact hW10
    walk_at "w"
    refine ⟨w, wr, wl, wf, n, hiAt (s0 n) log i, _, _, _, rfl, hW10, by omega, by omega, by omega, ?_⟩
    rw [eS2]
    walk_at "w"
    refine w_iteN (fun c => ?_) (fun c => ?_)
    · walk_at "w"
      refine ⟨_, _, _, _, _, rfl, k010.own hstH, eW.mut nst, upd_get rs hrr10, upd_get ls hll10, ?_⟩
      have c' : ¬stAt (s0 n) log (i + 1) (hiAt (s0 n) log i) = stAt (s0 n) log i (hiAt (s0 n) log i) := fun z => c z.symm
      rw [stl, if_neg c', ← ea1]
      exact upd_same
    · walk_at "w"
      refine ⟨_, _, _, _, _, rfl, k010, eW, hrr10, hll10, ?_⟩
      have c' : stAt (s0 n) log (i + 1) (hiAt (s0 n) log i) = stAt (s0 n) log i (hiAt (s0 n) log i) := c.symm
      rw [stl, if_pos c', ← ea1]
      exact hst10
  · rintro σ' H5 ⟨z3, z7, z8, z9, z10, rfl, k5, hW5, hrr5, hll5, hst5⟩
    rw [Int.toNat_natCast] at hW5 hrr5 hll5 hst5
    rw [List.take_length] at hW5
    have W := runS_full n0 n1 hok
    have hRl := WF.hR W
    have hLl := WF.hL W
    have hFl := WF.hF W
    have eRl := wrR_len (s0 n) log n log.length
    have eLl := wrL_len (s0 n) log n log.length
    obtain ⟨hw5, hr5, hl5, hf5, _⟩ := id hW5
    walk_at "w"
    refine w_lcRG1 (n := n + 1) [] (fun D i acc H' => Tps H' acc (papL n log i)) (by omega) (by omega) (fun D hD => .nil) ?_ ?_
    · intro D i acc H' hD hi hlen' hk hA hT
      walk_at "w"
      refine ⟨rfl, ?_⟩
      walk_at "w"
      refine ⟨w, wr, wl, wf, n, i, _, _, _, rfl, hW5.kp0 hk, by omega, by omega, by omega, ?_⟩
      have hrr6 := hk.at0 hrr5
      have hll6 := hk.at0 hll5
      walk_at "w"
      intro T hTn
      have hAT := upd_new (o := .tup [.str (stateOf (runS (s0 n) log).1 (runS (s0 n) log).2.1 (i : Int)), .int ((wrR (s0 n) log n log.length).getD ((i : Int)).toNat default), .int ((wrL (s0 n) log n log.length).getD ((i : Int)).toNat default)]) hTn hA
      refine w_keepG (hk.new hTn) hAT hlen' (by rw [sizeLine_eq]; omega) hD ?_
      rw [papL_succ]
      exact Tps.mut (Tps.snoc (hT.new hTn) upd_same) hAT
    · intro pp acc H6 hpp hal k6 hpp6 hT6
      have hw6 := k6.at0 hw5
      have hf6 := k6.at0 hf5
      walk_at "w"
      refine w_lcR2 (f' := V.int) (fun i : Nat => if (runS (s0 n) log).2.2.getD (i + 1) default = true then some (1 + (i : Int)) else none) (lo := 1) (n := n + 1) (by omega) (by omega) (by omega) (by omega) (by rw [sizeLine_eq]; omega) ?_ ?_
      · intro D i acc H' hD hi hk hA hlen
        have hw7 := hk.at0 hw6
        have hf7 := hk.at0 hf6
        walk_at "w"
        refine ⟨rfl, ?_⟩
        walk_at "w"
        rw [show (1 + (i : Int)).toNat = i + 1 by omega]
        refine w_iteb (fun c => ?_) (fun c => ?_)
        · walk_at "w"
          exact w_keep hk hA hlen hD (by rw [if_pos c])
        · walk_at "w"
          exact w_drop hk hA (by rw [if_neg (by rw [c]; exact Bool.false_ne_true)])
      · intro gn H7 hgn k7 hgn7
        rw [show (n + 1 - 1).toNat = n.toNat by omega] at hgn7
        walk_at "w"
        intro bk hbk
        have k57 := k6.trans0 k7
        exact k bk pp st gn acc _ (k5.free (k57.free hbk)) upd_same (upd_new hbk (k7.at0 hpp6)) ((hT6.kp0 k7).new hbk) (upd_new hbk (k57.at0 hst5)) (upd_new hbk hgn7) ((k5.trans0 k57).new hbk)
/-! ### bearing, papers -/
def sp__law_number_or_none (a : AD) : Sp := fun vs H Q _ => ∃ (v u : V) (o : Option Int), vs = [v, u] ∧ NoV v o ∧ NoV u o ∧ Q (.bl true) H
theorem sc__law_number_or_none : FnScope ["_law_told", "_law_due"] ["_law_told", "_law_due"] (defScope s__law_number_or_none) := ⟨rfl, rfl, rfl, by decide +kernel, rfl, by decide +kernel, by decide +kernel⟩
theorem ok__law_number_or_none {P : Program} {w : World} {K : PySem.W.Frag} {mg : Str → Option Value} {base : Heap} {a : AD} (T : Txt P K mg a) (G__law_whole_number : FnA P w K mg base 2 a.f__law_whole_number ["_law_told"] (sp__law_whole_number a)) : FnA P w K mg base 3 a.f__law_number_or_none ["_law_told", "_law_due"] (sp__law_number_or_none a) := by
  obtain ⟨fd, F, b⟩ := T.F__law_number_or_none
  refine FnA.of F sc__law_number_or_none b (fun vs H Q E h => by first | (obtain ⟨rfl, _⟩ := h; rfl) | (obtain ⟨_, rfl, _⟩ := h; rfl) | (obtain ⟨_, _, rfl, _⟩ := h; rfl) | (obtain ⟨_, _, _, rfl, _⟩ := h; rfl) | (obtain ⟨_, _, _, _, rfl, _⟩ := h; rfl) | (obtain ⟨_, _, _, _, _, rfl, _⟩ := h; rfl) | (obtain ⟨_, _, _, _, _, _, rfl, _⟩ := h; rfl) | (obtain ⟨_, _, _, _, _, _, _, rfl, _⟩ := h; rfl) | (obtain ⟨_, _, _, _, _, _, _, _, rfl, _⟩ := h; rfl) | (obtain ⟨_, _, _, _, _, _, _, _, _, rfl, _⟩ := h; rfl) | (obtain ⟨_, _, _, _, _, _, _, _, _, _, rfl, _⟩ := h; rfl) | (obtain ⟨_, _, _, _, _, _, _, _, _, _, _, rfl, _⟩ := h; rfl) | (obtain ⟨_, _, _, _, _, _, _, _, _, _, _, _, rfl, _⟩ := h; rfl) | (obtain ⟨_, _, _, _, _, _, _, _, _, _, _, _, _, rfl, _⟩ := h; rfl) | (obtain ⟨_, _, _, _, _, _, _, _, _, _, _, _, _, _, rfl, _⟩ := h; rfl) | (obtain ⟨_, _, _, _, _, _, _, _, _, _, _, _, _, _, _, rfl, _⟩ := h; rfl) | (obtain ⟨_, _, _, _, _, _, _, _, _, _, _, _, _, _, _, _, rfl, _⟩ := h; rfl) | (obtain ⟨_, _, _, _, _, _, _, _, _, _, _, _, _, _, _, _, _, rfl, _⟩ := h; rfl) | (obtain ⟨_, _, _, _, _, _, _, _, _, _, _, _, _, _, _, _, _, _, rfl, _⟩ := h; rfl) | (obtain ⟨_, _, _, _, _, _, _, _, _, _, _, _, _, _, _, _, _, _, _, rfl, _⟩ := h; rfl) | (obtain ⟨_, _, _, _, _, _, _, _, _, _, _, _, _, _, _, _, _, _, _, _, rfl, _⟩ := h; rfl) | (obtain ⟨_, _, _, _, _, _, _, _, _, _, _, _, _, _, _, _, _, _, _, _, _, rfl, _⟩ := h; rfl) | (obtain ⟨_, _, _, _, _, _, _, _, _, _, _, _, _, _, _, _, _, _, _, _, _, _, rfl, _⟩ := h; rfl) | (obtain ⟨_, _, _, _, _, _, _, _, _, _, _, _, _, _, _, _, _, _, _, _, _, _, _, rfl, _⟩ := h; rfl)) (fun cdv A outer s H vs Q E hr tk pz h => ?_)
  have hu := hr.units
  have hrH := L2H.roomH_of hr
  obtain ⟨v, u, o, rfl, h1, h2, k⟩ := h
  refine ⟨_, (pss_cons (ps_if (PW.pt (pw_or (pt_cmpA o_isN (pv 0) pe_non (nomark _)) (pw_or1 (pt_cmpA o_isN (pv 1) pe_non (nomark _))))) (pss_one (ps_ret (pe_and (pe_cmpR o_isN (pv 0) pe_non (nomark _)) (pe_one (pe_cmpR o_isN (pv 1) pe_non (nomark _)))))) pss_nil)
      (pss_one (ps_ret (pe_and (pe_callA G__law_whole_number (Room.mono hr (by decide)) T.n__law_whole_number tk (pa_cons (pv 0) pa_nil)) (pe_one (pe_cmpR (o_eq hu) (pv 0) (pv 1) (nomark _))))))), ?_⟩
  show (_ : Ends → L2.St → Hp → Prop) _ [some _, some _] _
  try dsimp only [L2H.cxH, cxOf]
  cases o with
  | none =>
    obtain rfl : v = .non := h1
    obtain rfl : u = .non := h2
    walk_at "w"
    exact k
  | some j =>
    obtain rfl : v = .int j := h1
    obtain rfl : u = .int j := h2
    walk_at "w"
    refine ⟨_, rfl, ?_⟩
    walk_at "w"
    rw [show decide (j = j) = true by simp]
    exact k
def sp__law_bears (a : AD) : Sp := fun vs H Q _ => ∃ (x q g : Addr) (us : List Int) (vp vk : V) (og oi : Option Int), vs = [.ref x, .ref g, vp, vk] ∧ VdO a H x q us og oi ∧ H g = some (.lst (us.map V.int)) ∧ us.length ≤ 1000 ∧ NoV vp og ∧ NoV vk oi ∧ Q (.bl true) H
theorem sc__law_bears : FnScope ["_law_told", "_law_gone", "_law_place", "_law_k"] ["_law_told", "_law_gone", "_law_place", "_law_k"] (defScope s__law_bears) := ⟨rfl, rfl, rfl, by decide +kernel, rfl, by decide +kernel, by decide +kernel⟩
theorem ok__law_bears {P : Program} {w : World} {K : PySem.W.Frag} {mg : Str → Option Value} {base : Heap} {a : AD} (T : Txt P K mg a) (G__law_numbers : FnA P w K mg base 3 a.f__law_numbers ["_law_told", "_law_due"] (sp__law_numbers a)) (G__law_number_or_none : FnA P w K mg base 3 a.f__law_number_or_none ["_law_told", "_law_due"] (sp__law_number_or_none a)) : FnA P w K mg base 4 a.f__law_bears ["_law_told", "_law_gone", "_law_place", "_law_k"] (sp__law_bears a) := by
  obtain ⟨fd, F, b⟩ := T.F__law_bears
  refine FnA.of F sc__law_bears b (fun vs H Q E h => by first | (obtain ⟨rfl, _⟩ := h; rfl) | (obtain ⟨_, rfl, _⟩ := h; rfl) | (obtain ⟨_, _, rfl, _⟩ := h; rfl) | (obtain ⟨_, _, _, rfl, _⟩ := h; rfl) | (obtain ⟨_, _, _, _, rfl, _⟩ := h; rfl) | (obtain ⟨_, _, _, _, _, rfl, _⟩ := h; rfl) | (obtain ⟨_, _, _, _, _, _, rfl, _⟩ := h; rfl) | (obtain ⟨_, _, _, _, _, _, _, rfl, _⟩ := h; rfl) | (obtain ⟨_, _, _, _, _, _, _, _, rfl, _⟩ := h; rfl) | (obtain ⟨_, _, _, _, _, _, _, _, _, rfl, _⟩ := h; rfl) | (obtain ⟨_, _, _, _, _, _, _, _, _, _, rfl, _⟩ := h; rfl) | (obtain ⟨_, _, _, _, _, _, _, _, _, _, _, rfl, _⟩ := h; rfl) | (obtain ⟨_, _, _, _, _, _, _, _, _, _, _, _, rfl, _⟩ := h; rfl) | (obtain ⟨_, _, _, _, _, _, _, _, _, _, _, _, _, rfl, _⟩ := h; rfl) | (obtain ⟨_, _, _, _, _, _, _, _, _, _, _, _, _, _, rfl, _⟩ := h; rfl) | (obtain ⟨_, _, _, _, _, _, _, _, _, _, _, _, _, _, _, rfl, _⟩ := h; rfl) | (obtain ⟨_, _, _, _, _, _, _, _, _, _, _, _, _, _, _, _, rfl, _⟩ := h; rfl) | (obtain ⟨_, _, _, _, _, _, _, _, _, _, _, _, _, _, _, _, _, rfl, _⟩ := h; rfl) | (obtain ⟨_, _, _, _, _, _, _, _, _, _, _, _, _, _, _, _, _, _, rfl, _⟩ := h; rfl) | (obtain ⟨_, _, _, _, _, _, _, _, _, _, _, _, _, _, _, _, _, _, _, rfl, _⟩ := h; rfl) | (obtain ⟨_, _, _, _, _, _, _, _, _, _, _, _, _, _, _, _, _, _, _, _, rfl, _⟩ := h; rfl) | (obtain ⟨_, _, _, _, _, _, _, _, _, _, _, _, _, _, _, _, _, _, _, _, _, rfl, _⟩ := h; rfl) | (obtain ⟨_, _, _, _, _, _, _, _, _, _, _, _, _, _, _, _, _, _, _, _, _, _, rfl, _⟩ := h; rfl) | (obtain ⟨_, _, _, _, _, _, _, _, _, _, _, _, _, _, _, _, _, _, _, _, _, _, _, rfl, _⟩ := h; rfl)) (fun cdv A outer s H vs Q E hr tk pz h => ?_)
  have hu := hr.units
  have hrH := L2H.roomH_of hr
  obtain ⟨x, q, g, us, vp, vk, og, oi, rfl, ⟨dx, vg, vi, wb, hx, hwb, hg, hi, hq⟩, hgn, hlen, hp, hk, k⟩ := h
  refine ⟨_, (pss_cons (ps_if (PW.pt (pw_or (pt_not (pt_tru (pe_callB (b_isC T.in_Verdict) rfl T.b_isinstance (by decide +kernel) (pa_cons (pv 0) (pa_cons (pe_glob (v := .ref a.Verdict) rfl T.c_Verdict rfl) pa_nil))))) (pw_or1 (pt_not (pt_tru (pe_callA G__law_numbers (Room.mono hr (by decide)) T.n__law_numbers tk (pa_cons (pe_fld (pv 0) rfl) (pa_cons (pv 1) pa_nil)))))))) (pss_one (ps_ret pe_bl)) pss_nil)
      (pss_cons (ps_if (PW.pt (pw_or (pt_not (pt_tru (pe_callA G__law_number_or_none (Room.mono hr (by decide)) T.n__law_number_or_none tk (pa_cons (pe_fld (pv 0) rfl) (pa_cons (pv 2) pa_nil))))) (pw_or1 (pt_not (pt_tru (pe_callA G__law_number_or_none (Room.mono hr (by decide)) T.n__law_number_or_none tk (pa_cons (pe_fld (pv 0) rfl) (pa_cons (pv 3) pa_nil)))))))) (pss_one (ps_ret pe_bl)) pss_nil)
      (pss_one (ps_ret (pe_and (pe_callB (call_isi) rfl T.b_isinstance (by decide +kernel) (pa_cons (pe_fld (pv 0) rfl) (pa_cons (pe_bltn (v := .ty "bool") rfl T.b_bool (by decide +kernel) rfl) pa_nil))) (pe_one (pe_cmpR (o_eq hu) (pe_fld (pv 0) rfl) (pe_and (pe_cmpR o_isN (pv 2) pe_non (nomark _)) (pe_one (pe_cmpR (o_eq hu) (pe_callB (b_len) rfl T.b_len (by decide +kernel) (pa_cons (pv 1) pa_nil)) pe_int (nomark _)))) (nomark _)))))))), ?_⟩
  show (_ : Ends → L2.St → Hp → Prop) _ [some _, some _, some _, some _] _
  try dsimp only [L2H.cxH, cxOf]
  walk_at "w"
  refine ⟨q, g, us, us, rfl, hq, hgn, by omega, by omega, ?_⟩
  rw [show decide (us = us) = true by simp]
  walk_at "w"
  refine ⟨vg, vp, og, rfl, hg, hp, ?_⟩
  walk_at "w"
  refine ⟨vi, vk, oi, rfl, hi, hk, ?_⟩
  walk_at "w"
  cases og with
  | none =>
    obtain rfl : vp = .non := hp
    walk_at "w"
    rw [hwb]
    rw [show decide (((none : Option Int).isNone && decide ((us.length : Int) = 0)) = decide ((us.length : Int) = 0)) = true by simp]
    exact k
  | some j =>
    obtain rfl : vp = .int j := hp
    walk_at "w"
    rw [hwb]
    rw [show decide (((some j).isNone && decide ((us.length : Int) = 0)) = false) = true by simp]
    exact k
def sp__law_verdict_fits (a : AD) : Sp := fun vs H Q _ => ∃ (x q bk pp st gn : Addr) (n : Int) (log : List Int) (xs : List V), vs = [.ref x, .ref bk] ∧ 0 ≤ n ∧ n ≤ 60 ∧ okTo n (s0 n) log log.length ∧ VdO a H x q (outL n (runS (s0 n) log).2.2) (vdG n log) (vdI n log) ∧ H bk = some (.lst [.ref pp, .ref st, .ref gn]) ∧ H pp = some (.lst xs) ∧ Tps H xs (papL n log (n + 1).toNat) ∧ H st = some (.lst ((stl (s0 n) log n log.length).map V.int)) ∧ H gn = some (.lst ((outL n (runS (s0 n) log).2.2).map V.int)) ∧ Q (.bl true) H
theorem sc__law_verdict_fits : FnScope ["_law_told", "_law_book_here", "_law_place"] ["_law_told", "_law_book_here"] (defScope s__law_verdict_fits) := ⟨rfl, rfl, rfl, by decide +kernel, rfl, by decide +kernel, by decide +kernel⟩
theorem ok__law_verdict_fits {P : Program} {w : World} {K : PySem.W.Frag} {mg : Str → Option Value} {base : Heap} {a : AD} (T : Txt P K mg a) (G__law_bears : FnA P w K mg base 4 a.f__law_bears ["_law_told", "_law_gone", "_law_place", "_law_k"] (sp__law_bears a)) : FnA P w K mg base 5 a.f__law_verdict_fits ["_law_told", "_law_book_here"] (sp__law_verdict_fits a) := by
  obtain ⟨fd, F, b⟩ := T.F__law_verdict_fits
  refine FnA.of F sc__law_verdict_fits b (fun vs H Q E h => by first | (obtain ⟨rfl, _⟩ := h; rfl) | (obtain ⟨_, rfl, _⟩ := h; rfl) | (obtain ⟨_, _, rfl, _⟩ := h; rfl) | (obtain ⟨_, _, _, rfl, _⟩ := h; rfl) | (obtain ⟨_, _, _, _, rfl, _⟩ := h; rfl) | (obtain ⟨_, _, _, _, _, rfl, _⟩ := h; rfl) | (obtain ⟨_, _, _, _, _, _, rfl, _⟩ := h; rfl) | (obtain ⟨_, _, _, _, _, _, _, rfl, _⟩ := h; rfl) | (obtain ⟨_, _, _, _, _, _, _, _, rfl, _⟩ := h; rfl) | (obtain ⟨_, _, _, _, _, _, _, _, _, rfl, _⟩ := h; rfl) | (obtain ⟨_, _, _, _, _, _, _, _, _, _, rfl, _⟩ := h; rfl) | (obtain ⟨_, _, _, _, _, _, _, _, _, _, _, rfl, _⟩ := h; rfl) | (obtain ⟨_, _, _, _, _, _, _, _, _, _, _, _, rfl, _⟩ := h; rfl) | (obtain ⟨_, _, _, _, _, _, _, _, _, _, _, _, _, rfl, _⟩ := h; rfl) | (obtain ⟨_, _, _, _, _, _, _, _, _, _, _, _, _, _, rfl, _⟩ := h; rfl) | (obtain ⟨_, _, _, _, _, _, _, _, _, _, _, _, _, _, _, rfl, _⟩ := h; rfl) | (obtain ⟨_, _, _, _, _, _, _, _, _, _, _, _, _, _, _, _, rfl, _⟩ := h; rfl) | (obtain ⟨_, _, _, _, _, _, _, _, _, _, _, _, _, _, _, _, _, rfl, _⟩ := h; rfl) | (obtain ⟨_, _, _, _, _, _, _, _, _, _, _, _, _, _, _, _, _, _, rfl, _⟩ := h; rfl) | (obtain ⟨_, _, _, _, _, _, _, _, _, _, _, _, _, _, _, _, _, _, _, rfl, _⟩ := h; rfl) | (obtain ⟨_, _, _, _, _, _, _, _, _, _, _, _, _, _, _, _, _, _, _, _, rfl, _⟩ := h; rfl) | (obtain ⟨_, _, _, _, _, _, _, _, _, _, _, _, _, _, _, _, _, _, _, _, _, rfl, _⟩ := h; rfl) | (obtain ⟨_, _, _, _, _, _, _, _, _, _, _, _, _, _, _, _, _, _, _, _, _, _, rfl, _⟩ := h; rfl) | (obtain ⟨_, _, _, _, _, _, _, _, _, _, _, _, _, _, _, _, _, _, _, _, _, _, _, rfl, _⟩ := h; rfl)) (fun cdv A outer s H vs Q E hr tk pz h => ?_)
  have hu := hr.units
  have hrH := L2H.roomH_of hr
  obtain ⟨x, q, bk, pp, st, gn, n, log, xs, rfl, n0, n1, hok, hV, hbk, hpp, hT, hst, hgn, k⟩ := h
  refine ⟨_, (pss_cons (ps_for pz rfl (pi_range1 rfl T.b_range (pa_cons (pe_callB (b_len) rfl T.b_len (by decide +kernel) (pa_cons (pe_ix ix_seq (pv 1) pe_int (fun _ _ => rfl)) pa_nil)) pa_nil)) (pg_name (i := 2) sc__law_verdict_fits.nd rfl (Or.inl rfl))
      (pss_one (ps_if (pt_cmpA (o_ne hu) (pe_ix ix_seq (pe_ix ix_seq (pe_ix ix_seq (pv 1) pe_int (fun _ _ => rfl)) (pv 2) (fun _ _ => rfl)) pe_int (fun _ _ => rfl)) pe_str (nomark _)) (pss_one (ps_ret (pe_callA G__law_bears (Room.mono hr (by decide)) T.n__law_bears tk (pa_cons (pv 0) (pa_cons (pe_ix ix_seq (pv 1) pe_int (fun _ _ => rfl)) (pa_cons (pv 2) (pa_cons (pe_ix ix_seq (pe_ix ix_seq (pv 1) pe_int (fun _ _ => rfl)) (pv 2) (fun _ _ => rfl)) pa_nil))))))) pss_nil)))
      (pss_one (ps_ret (pe_callA G__law_bears (Room.mono hr (by decide)) T.n__law_bears tk (pa_cons (pv 0) (pa_cons (pe_ix ix_seq (pv 1) pe_int (fun _ _ => rfl)) (pa_cons pe_non (pa_cons pe_non pa_nil)))))))), ?_⟩
  show (_ : Ends → L2.St → Hp → Prop) _ [some _, some _, none] _
  try dsimp only [L2H.cxH, cxOf]
  have hxl := hT.len
  have hpl : (papL n log (n + 1).toNat).length = (n + 1).toNat := by simp [papL]
  rw [hpl] at hxl
  have hol := outL_len n (runS (s0 n) log).2.2
  have hsl := stl_len (s0 n) log n log.length
  walk_at "w"
  refine w_rng1 (n := (xs.length : Int)) (by omega) (by omega) (fun i σ' H' => (∃ z, σ' = [some (.ref x), some (.ref bk), z]) ∧ H' = H ∧ ∀ j : Nat, j < i → stateOf (runS (s0 n) log).1 (runS (s0 n) log).2.1 (j : Int) = ("joined" : Str)) ⟨⟨_, rfl⟩, rfl, fun j hj => by omega⟩ ?_ ?_
  · rintro i σ' H1 hi ⟨⟨z, rfl⟩, e, hj⟩
    subst e
    obtain ⟨r, er, hr⟩ := hT.get (papL_get (n := n) (log := log) (k := (n + 1).toNat) (i := i) (by omega))
    unfold papR at hr
    have er' : xs[((i : Int)).toNat]? = some (.ref r) := by rw [Int.toNat_natCast]; exact er
    walk_at "w"
    refine w_iteN (fun c => ?_) (fun c => ?_)
    · have ef := fsG_some (n := n) (s := runS (s0 n) log) (i := i) (by omega) c hj
      walk_at "w"
      refine ⟨x, q, gn, _, _, _, _, _, rfl, hV, hgn, by omega, ?_, ?_, k⟩
      · unfold vdG; rw [ef]; rfl
      · unfold vdI
        rw [ef, decF_stl (wfs0 n0 n1) hok (by omega) (by omega) _ (Nat.le_refl _)]; rfl
    · walk_at "w"
      refine ⟨⟨_, rfl⟩, rfl, fun j hj' => ?_⟩
      by_cases z : j < i
      · exact hj j z
      · obtain rfl : j = i := by omega
        exact c
  · rintro σ' H1 ⟨⟨z, rfl⟩, e, hj⟩
    subst e
    have ef := fsG_none (n := n) (s := runS (s0 n) log) (fun j hj' => hj j (by omega))
    walk_at "w"
    refine ⟨x, q, gn, _, _, _, _, _, rfl, hV, hgn, by omega, ?_, ?_, k⟩
    · unfold vdG; rw [ef]; rfl
    · unfold vdI; rw [ef]; rfl
def sp__law_made (a : AD) : Sp := fun vs H Q _ => ∃ (g : Addr) (us : List Int) (vp vk : V) (og oi : Option Int), vs = [.ref g, vp, vk] ∧ H g = some (.lst (us.map V.int)) ∧ us.length ≤ 100 ∧ NoV vp og ∧ NoV vk oi ∧ ∀ H', Kp [] H H' → Q (.bl true) H'
theorem sc__law_made : FnScope ["_law_gone", "_law_place", "_law_k", "_law_given", "_law_made_here"] ["_law_gone", "_law_place", "_law_k"] (defScope s__law_made) := ⟨rfl, rfl, rfl, by decide +kernel, rfl, by decide +kernel, by decide +kernel⟩
theorem ok__law_made {P : Program} {w : World} {K : PySem.W.Frag} {mg : Str → Option Value} {base : Heap} {a : AD} (T : Txt P K mg a) (G_Verdict___init__ : FnA P w K mg base 2 a.f_Verdict___init__ ["self", "out_nodes", "gap", "index"] (sp_Verdict___init__ a)) (G__law_bears : FnA P w K mg base 4 a.f__law_bears ["_law_told", "_law_gone", "_law_place", "_law_k"] (sp__law_bears a)) : FnA P w K mg base 5 a.f__law_made ["_law_gone", "_law_place", "_law_k"] (sp__law_made a) := by
  obtain ⟨fd, F, b⟩ := T.F__law_made
  refine FnA.of F sc__law_made b (fun vs H Q E h => by first | (obtain ⟨rfl, _⟩ := h; rfl) | (obtain ⟨_, rfl, _⟩ := h; rfl) | (obtain ⟨_, _, rfl, _⟩ := h; rfl) | (obtain ⟨_, _, _, rfl, _⟩ := h; rfl) | (obtain ⟨_, _, _, _, rfl, _⟩ := h; rfl) | (obtain ⟨_, _, _, _, _, rfl, _⟩ := h; rfl) | (obtain ⟨_, _, _, _, _, _, rfl, _⟩ := h; rfl) | (obtain ⟨_, _, _, _, _, _, _, rfl, _⟩ := h; rfl) | (obtain ⟨_, _, _, _, _, _, _, _, rfl, _⟩ := h; rfl) | (obtain ⟨_, _, _, _, _, _, _, _, _, rfl, _⟩ := h; rfl) | (obtain ⟨_, _, _, _, _, _, _, _, _, _, rfl, _⟩ := h; rfl) | (obtain ⟨_, _, _, _, _, _, _, _, _, _, _, rfl, _⟩ := h; rfl) | (obtain ⟨_, _, _, _, _, _, _, _, _, _, _, _, rfl, _⟩ := h; rfl) | (obtain ⟨_, _, _, _, _, _, _, _, _, _, _, _, _, rfl, _⟩ := h; rfl) | (obtain ⟨_, _, _, _, _, _, _, _, _, _, _, _, _, _, rfl, _⟩ := h; rfl) | (obtain ⟨_, _, _, _, _, _, _, _, _, _, _, _, _, _, _, rfl, _⟩ := h; rfl) | (obtain ⟨_, _, _, _, _, _, _, _, _, _, _, _, _, _, _, _, rfl, _⟩ := h; rfl) | (obtain ⟨_, _, _, _, _, _, _, _, _, _, _, _, _, _, _, _, _, rfl, _⟩ := h; rfl) | (obtain ⟨_, _, _, _, _, _, _, _, _, _, _, _, _, _, _, _, _, _, rfl, _⟩ := h; rfl) | (obtain ⟨_, _, _, _, _, _, _, _, _, _, _, _, _, _, _, _, _, _, _, rfl, _⟩ := h; rfl) | (obtain ⟨_, _, _, _, _, _, _, _, _, _, _, _, _, _, _, _, _, _, _, _, rfl, _⟩ := h; rfl) | (obtain ⟨_, _, _, _, _, _, _, _, _, _, _, _, _, _, _, _, _, _, _, _, _, rfl, _⟩ := h; rfl) | (obtain ⟨_, _, _, _, _, _, _, _, _, _, _, _, _, _, _, _, _, _, _, _, _, _, rfl, _⟩ := h; rfl) | (obtain ⟨_, _, _, _, _, _, _, _, _, _, _, _, _, _, _, _, _, _, _, _, _, _, _, rfl, _⟩ := h; rfl)) (fun cdv A outer s H vs Q E hr tk pz h => ?_)
  have hu := hr.units
  have hrH := L2H.roomH_of hr
  obtain ⟨g, us, vp, vk, og, oi, rfl, hg, hl, hp, hk, k⟩ := h
  refine ⟨_, (pss_cons (ps_set (i := 3) sc__law_made.nd rfl (Or.inl rfl) (pe_callTy b_list rfl T.b_list (by decide +kernel) (pa_cons (pv 0) pa_nil)))
      (pss_cons (ps_set (i := 4) sc__law_made.nd rfl (Or.inl rfl) (pe_makeS G_Verdict___init__ T.mk_Verdict (Room.mono hr (by decide)) T.c_Verdict tk (pa_cons (pv 3) (pa_cons (pv 1) (pa_cons (pv 2) pa_nil)))))
      (pss_cons (ps_expr (pe_bm PySem.F.plainAttrs_list PySem.F.slot_list_append PySem.F.type_list_append mt_append (pv 3) (pa_cons pe_int pa_nil)))
      (pss_one (ps_ret (pe_callA G__law_bears (Room.mono hr (by decide)) T.n__law_bears tk (pa_cons (pv 4) (pa_cons (pv 0) (pa_cons (pv 1) (pa_cons (pv 2) pa_nil)))))))))), ?_⟩
  show (_ : Ends → L2.St → Hp → Prop) _ [some _, some _, some _, none, none] _
  try dsimp only [L2H.cxH, cxOf]
  walk_at "w"
  intro d hd
  have kd := Kp.refl.new (ms := []) (o := .lst (us.map V.int)) hd
  have hd1 : upd H d (.lst (us.map V.int)) d = some (.lst (us.map V.int)) := upd_same
  have hg1 := kd.at0 hg
  have dg : g ≠ d := ne_of_none hg hd
  generalize upd H d (.lst (us.map V.int)) = H1 at kd hd1 hg1 ⊢
  walk_at "w"
  refine mk_verdict hd1 hp hk (fun x q H2 hx hq hV k2 => ?_)
  have hd2 := k2.at0 hd1
  have hg2 := k2.at0 hg1
  have qd : q ≠ d := Ne.symm (ne_of_none hd1 hq)
  walk_at "w"
  obtain ⟨dx, vg, vi, wb, h1, h0, h2, h3, h4⟩ := hV
  have xd : x ≠ d := ne_of h1 hd2 (by intro z; cases z)
  refine ⟨x, q, g, us, vp, vk, og, oi, rfl, ⟨dx, vg, vi, wb, upd_get xd h1, h0, h2, h3, upd_get qd h4⟩, upd_get dg hg2, by omega, hp, hk, ?_⟩
  exact k _ ((kd.trans0 k2).own hd)
def sp__law_is_paper (a : AD) : Sp := fun vs H Q _ => ∃ (t u : Addr) (s : Str) (i j : Int), vs = [.ref t, .ref u] ∧ H t = some (.tup [.str s, .int i, .int j]) ∧ H u = some (.tup [.str s, .int i, .int j]) ∧ Q (.bl true) H
theorem sc__law_is_paper : FnScope ["_law_told", "_law_due"] ["_law_told", "_law_due"] (defScope s__law_is_paper) := ⟨rfl, rfl, rfl, by decide +kernel, rfl, by decide +kernel, by decide +kernel⟩
theorem ok__law_is_paper {P : Program} {w : World} {K : PySem.W.Frag} {mg : Str → Option Value} {base : Heap} {a : AD} (T : Txt P K mg a) (G__law_whole_number : FnA P w K mg base 2 a.f__law_whole_number ["_law_told"] (sp__law_whole_number a)) : FnA P w K mg base 3 a.f__law_is_paper ["_law_told", "_law_due"] (sp__law_is_paper a) := by
  obtain ⟨fd, F, b⟩ := T.F__law_is_paper
  refine FnA.of F sc__law_is_paper b (fun vs H Q E h => by first | (obtain ⟨rfl, _⟩ := h; rfl) | (obtain ⟨_, rfl, _⟩ := h; rfl) | (obtain ⟨_, _, rfl, _⟩ := h; rfl) | (obtain ⟨_, _, _, rfl, _⟩ := h; rfl) | (obtain ⟨_, _, _, _, rfl, _⟩ := h; rfl) | (obtain ⟨_, _, _, _, _, rfl, _⟩ := h; rfl) | (obtain ⟨_, _, _, _, _, _, rfl, _⟩ := h; rfl) | (obtain ⟨_, _, _, _, _, _, _, rfl, _⟩ := h; rfl) | (obtain ⟨_, _, _, _, _, _, _, _, rfl, _⟩ := h; rfl) | (obtain ⟨_, _, _, _, _, _, _, _, _, rfl, _⟩ := h; rfl) | (obtain ⟨_, _, _, _, _, _, _, _, _, _, rfl, _⟩ := h; rfl) | (obtain ⟨_, _, _, _, _, _, _, _, _, _, _, rfl, _⟩ := h; rfl) | (obtain ⟨_, _, _, _, _, _, _, _, _, _, _, _, rfl, _⟩ := h; rfl) | (obtain ⟨_, _, _, _, _, _, _, _, _, _, _, _, _, rfl, _⟩ := h; rfl) | (obtain ⟨_, _, _, _, _, _, _, _, _, _, _, _, _, _, rfl, _⟩ := h; rfl) | (obtain ⟨_, _, _, _, _, _, _, _, _, _, _, _, _, _, _, rfl, _⟩ := h; rfl) | (obtain ⟨_, _, _, _, _, _, _, _, _, _, _, _, _, _, _, _, rfl, _⟩ := h; rfl) | (obtain ⟨_, _, _, _, _, _, _, _, _, _, _, _, _, _, _, _, _, rfl, _⟩ := h; rfl) | (obtain ⟨_, _, _, _, _, _, _, _, _, _, _, _, _, _, _, _, _, _, rfl, _⟩ := h; rfl) | (obtain ⟨_, _, _, _, _, _, _, _, _, _, _, _, _, _, _, _, _, _, _, rfl, _⟩ := h; rfl) | (obtain ⟨_, _, _, _, _, _, _, _, _, _, _, _, _, _, _, _, _, _, _, _, rfl, _⟩ := h; rfl) | (obtain ⟨_, _, _, _, _, _, _, _, _, _, _, _, _, _, _, _, _, _, _, _, _, rfl, _⟩ := h; rfl) | (obtain ⟨_, _, _, _, _, _, _, _, _, _, _, _, _, _, _, _, _, _, _, _, _, _, rfl, _⟩ := h; rfl) | (obtain ⟨_, _, _, _, _, _, _, _, _, _, _, _, _, _, _, _, _, _, _, _, _, _, _, rfl, _⟩ := h; rfl)) (fun cdv A outer s H vs Q E hr tk pz h => ?_)
  have hu := hr.units
  have hrH := L2H.roomH_of hr
  obtain ⟨t, u, s, i, j, rfl, ht, hu', k⟩ := h
  refine ⟨_, (pss_cons (ps_if (PW.pt (pw_or (pt_not (pt_tru (pe_callB (call_isi) rfl T.b_isinstance (by decide +kernel) (pa_cons (pv 0) (pa_cons (pe_bltn (v := .ty "tuple") rfl T.b_tuple (by decide +kernel) rfl) pa_nil))))) (pw_or (pt_cmpA (o_ne hu) (pe_callB (b_len) rfl T.b_len (by decide +kernel) (pa_cons (pv 0) pa_nil)) pe_int (nomark _)) (pw_or1 (pt_not (pt_tru (pe_callB (call_isi) rfl T.b_isinstance (by decide +kernel) (pa_cons (pe_ix ix_seq (pv 0) pe_int (fun _ _ => rfl)) (pa_cons (pe_bltn (v := .ty "str") rfl T.b_str (by decide +kernel) rfl) pa_nil))))))))) (pss_one (ps_ret pe_bl)) pss_nil)
      (pss_cons (ps_if (PW.pt (pw_or (pt_not (pt_tru (pe_callA G__law_whole_number (Room.mono hr (by decide)) T.n__law_whole_number tk (pa_cons (pe_ix ix_seq (pv 0) pe_int (fun _ _ => rfl)) pa_nil)))) (pw_or1 (pt_not (pt_tru (pe_callA G__law_whole_number (Room.mono hr (by decide)) T.n__law_whole_number tk (pa_cons (pe_ix ix_seq (pv 0) pe_int (fun _ _ => rfl)) pa_nil))))))) (pss_one (ps_ret pe_bl)) pss_nil)
      (pss_one (ps_ret (pe_and (pe_cmpR (o_eq hu) (pe_ix ix_seq (pv 0) pe_int (fun _ _ => rfl)) (pe_ix ix_seq (pv 1) pe_int (fun _ _ => rfl)) (nomark _)) (pe_and (pe_cmpR (o_eq hu) (pe_ix ix_seq (pv 0) pe_int (fun _ _ => rfl)) (pe_ix ix_seq (pv 1) pe_int (fun _ _ => rfl)) (nomark _)) (pe_one (pe_cmpR (o_eq hu) (pe_ix ix_seq (pv 0) pe_int (fun _ _ => rfl)) (pe_ix ix_seq (pv 1) pe_int (fun _ _ => rfl)) (nomark _))))))))), ?_⟩
  show (_ : Ends → L2.St → Hp → Prop) _ [some _, some _] _
  try dsimp only [L2H.cxH, cxOf]
  walk_at "w"
  refine ⟨_, rfl, ?_⟩
  walk_at "w"
  refine ⟨_, rfl, ?_⟩
  walk_at "w"
  rw [show decide (j = j) = true by simp]
  exact k
/-! ### bent papers -/
theorem cv_app {H : Hp} {xs ys : List V} (h1 : ∀ x ∈ xs, ∃ f, CV H x f) (h2 : ∀ x ∈ ys, ∃ f, CV H x f) : ∀ x ∈ xs ++ ys, ∃ f, CV H x f := fun x hx => by
  rcases List.mem_append.mp hx with z | z
  · exact h1 x z
  · exact h2 x z
theorem cv_kp {H H' : Hp} {xs : List V} (h : ∀ x ∈ xs, ∃ f, CV H x f) (k : Kp [] H H') : ∀ x ∈ xs, ∃ f, CV H' x f := fun x hx => by
  obtain ⟨f, hf⟩ := h x hx
  exact ⟨f, hf.kp0 k⟩
def sp__law_bents (a : AD) : Sp := fun vs H Q _ => ∃ (t o : Addr) (b i j i2 j2 : Int) (s s2 : Str), vs = [.ref t, .ref o, .int b] ∧ H t = some (.tup [.str s, .int i, .int j]) ∧ PyData.strOk s = true ∧ -1 ≤ i ∧ i < 1000000 ∧ H o = some (.tup [.str s2, .int i2, .int j2]) ∧ PyData.strOk s2 = true ∧ ∀ (X : Addr) (xs : List V) (H' : Hp), H X = none → Kp [] H H' → H' X = some (.lst xs) → 1 ≤ xs.length → xs.length ≤ 100 → (∀ x ∈ xs, ∃ f, CV H' x f) → Q (.ref X) H'
theorem sc__law_bents : FnScope ["_law_due", "_law_other", "_law_by", "_law_state_here", "_law_one", "_law_two", "_law_word", "_law_bents_here"] ["_law_due", "_law_other", "_law_by"] (defScope s__law_bents) := ⟨rfl, rfl, rfl, by decide +kernel, rfl, by decide +kernel, by decide +kernel⟩
theorem ok__law_bents {P : Program} {w : World} {K : PySem.W.Frag} {mg : Str → Option Value} {base : Heap} {a : AD} (T : Txt P K mg a) : FnA P w K mg base 2 a.f__law_bents ["_law_due", "_law_other", "_law_by"] (sp__law_bents a) := by
  obtain ⟨fd, F, b⟩ := T.F__law_bents
  refine FnA.of F sc__law_bents b (fun vs H Q E h => by first | (obtain ⟨rfl, _⟩ := h; rfl) | (obtain ⟨_, rfl, _⟩ := h; rfl) | (obtain ⟨_, _, rfl, _⟩ := h; rfl) | (obtain ⟨_, _, _, rfl, _⟩ := h; rfl) | (obtain ⟨_, _, _, _, rfl, _⟩ := h; rfl) | (obtain ⟨_, _, _, _, _, rfl, _⟩ := h; rfl) | (obtain ⟨_, _, _, _, _, _, rfl, _⟩ := h; rfl) | (obtain ⟨_, _, _, _, _, _, _, rfl, _⟩ := h; rfl) | (obtain ⟨_, _, _, _, _, _, _, _, rfl, _⟩ := h; rfl) | (obtain ⟨_, _, _, _, _, _, _, _, _, rfl, _⟩ := h; rfl) | (obtain ⟨_, _, _, _, _, _, _, _, _, _, rfl, _⟩ := h; rfl) | (obtain ⟨_, _, _, _, _, _, _, _, _, _, _, rfl, _⟩ := h; rfl) | (obtain ⟨_, _, _, _, _, _, _, _, _, _, _, _, rfl, _⟩ := h; rfl) | (obtain ⟨_, _, _, _, _, _, _, _, _, _, _, _, _, rfl, _⟩ := h; rfl) | (obtain ⟨_, _, _, _, _, _, _, _, _, _, _, _, _, _, rfl, _⟩ := h; rfl) | (obtain ⟨_, _, _, _, _, _, _, _, _, _, _, _, _, _, _, rfl, _⟩ := h; rfl) | (obtain ⟨_, _, _, _, _, _, _, _, _, _, _, _, _, _, _, _, rfl, _⟩ := h; rfl) | (obtain ⟨_, _, _, _, _, _, _, _, _, _, _, _, _, _, _, _, _, rfl, _⟩ := h; rfl) | (obtain ⟨_, _, _, _, _, _, _, _, _, _, _, _, _, _, _, _, _, _, rfl, _⟩ := h; rfl) | (obtain ⟨_, _, _, _, _, _, _, _, _, _, _, _, _, _, _, _, _, _, _, rfl, _⟩ := h; rfl) | (obtain ⟨_, _, _, _, _, _, _, _, _, _, _, _, _, _, _, _, _, _, _, _, rfl, _⟩ := h; rfl) | (obtain ⟨_, _, _, _, _, _, _, _, _, _, _, _, _, _, _, _, _, _, _, _, _, rfl, _⟩ := h; rfl) | (obtain ⟨_, _, _, _, _, _, _, _, _, _, _, _, _, _, _, _, _, _, _, _, _, _, rfl, _⟩ := h; rfl) | (obtain ⟨_, _, _, _, _, _, _, _, _, _, _, _, _, _, _, _, _, _, _, _, _, _, _, rfl, _⟩ := h; rfl)) (fun cdv A outer s H vs Q E hr tk pz h => ?_)
  have hu := hr.units
  have hrH := L2H.roomH_of hr
  obtain ⟨t, o, b, i, j, i2, j2, s, s2, rfl, ht, hs, hi0, hi1, ho, hs2, k⟩ := h
  refine ⟨_, (pss_cons (ps_set (i := 3) sc__law_bents.nd rfl (Or.inl rfl) (pe_ix ix_seq (pv 0) pe_int (fun _ _ => rfl)))
      (pss_cons (ps_set (i := 4) sc__law_bents.nd rfl (Or.inr rfl) (pe_ix ix_seq (pv 0) pe_int (fun _ _ => rfl)))
      (pss_cons (ps_set (i := 5) sc__law_bents.nd rfl (Or.inr rfl) (pe_ix ix_seq (pv 0) pe_int (fun _ _ => rfl)))
      (pss_cut (ps_setLc (i := 7) (own := [("_law_word", 6)]) (g := (gName 6)) (tt := tYes) rfl sc__law_bents.nd rfl rfl (sw_true rfl rfl rfl (by decide +kernel)) (pi_list (pe_lst (pa_cons pe_str (pa_cons pe_str (pa_cons pe_str (pa_cons pe_str (pa_cons pe_str (pa_cons pe_str pa_nil)))))))) (blkOk_by (own := [("_law_word", 6)]) (N := ["_law_due", "_law_other", "_law_by", "_law_state_here", "_law_one", "_law_two", "_law_word", "_law_bents_here"]) (sc := defScope s__law_bents) (by decide +kernel)) (fun _ _ _ _ _ => (pg_name (i := 6) sc__law_bents.nd rfl (Or.inl rfl))) (fun _ _ _ _ _ => pts_nil) (fun _ _ _ _ _ => (pe_tup (pa_cons (pv 6) (pa_cons (pv 4) (pa_cons (pv 5) pa_nil))))))
      (pss_cut (ps_set (i := 7) sc__law_bents.nd rfl (Or.inl rfl) (pe_op o_add (pv 7) (pe_lst (pa_cons (pe_tup (pa_cons (pv 3) (pa_cons (pe_op o_add (pv 4) (pv 2)) (pa_cons (pv 5) pa_nil)))) (pa_cons (pe_tup (pa_cons (pv 3) (pa_cons (pv 4) (pa_cons (pe_op o_add (pv 5) (pv 2)) pa_nil)))) (pa_cons (pe_tup (pa_cons (pv 3) (pa_cons (pe_op op_sub (pv 4) (pv 2)) (pa_cons (pv 5) pa_nil)))) pa_nil))))))
      (pss_cut (ps_set (i := 7) sc__law_bents.nd rfl (Or.inl rfl) (pe_op o_add (pv 7) (pe_lst (pa_cons (pe_tup (pa_cons (pv 3) (pa_cons (pv 4) (pa_cons (pe_op op_sub (pv 5) (pv 2)) pa_nil)))) (pa_cons (pe_tup (pa_cons (pv 3) (pa_cons (pv 5) (pa_cons (pv 4) pa_nil)))) (pa_cons (pv 1) (pa_cons (pe_lst (pa_cons (pv 3) (pa_cons (pv 4) (pa_cons (pv 5) pa_nil)))) (pa_cons (pe_tup (pa_cons (pv 3) (pa_cons (pv 4) pa_nil))) pa_nil))))))))
      (pss_cut (ps_set (i := 7) sc__law_bents.nd rfl (Or.inl rfl) (pe_op o_add (pv 7) (pe_lst (pa_cons (pe_tup (pa_cons (pv 3) (pa_cons (pv 4) (pa_cons (pv 5) (pa_cons (pv 5) pa_nil))))) (pa_cons (pe_tup (pa_cons (pv 4) (pa_cons (pv 3) (pa_cons (pv 5) pa_nil)))) (pa_cons (pe_tup (pa_cons (pv 3) (pa_cons (pe_callTy b_str rfl T.b_str (by decide +kernel) (pa_cons (pv 4) pa_nil)) (pa_cons (pv 5) pa_nil)))) (pa_cons (pe_tup (pa_cons (pv 3) (pa_cons (pv 4) (pa_cons pe_non pa_nil)))) pa_nil)))))))
      (pss_one (ps_ret (pe_op o_add (pv 7) (pe_lst (pa_cons (pe_tup (pa_cons (pe_tup (pa_cons (pv 3) (pa_cons (pv 4) (pa_cons (pv 5) pa_nil)))) pa_nil)) (pa_cons (pe_tup (pa_cons (pv 3) (pa_cons (pe_tup (pa_cons (pv 4) (pa_cons (pv 5) pa_nil))) pa_nil))) (pa_cons pe_non (pa_cons (pv 3) (pa_cons (pv 4) (pa_cons (pe_tup pa_nil) (pa_cons pe_str (pa_cons (pe_lst (pa_cons (pv 1) pa_nil)) pa_nil))))))))))))))))))), ?_⟩
  show (_ : Ends → L2.St → Hp → Prop) _ [some _, some _, some _, none, none, none, none, none] _
  try dsimp only [L2H.cxH, cxOf]
  have hsi := strI_ok hi0
  have hs3 : ([V.str s2, .int i2, .int j2]).all okN = true := by simp [okN, hs2]
  walk_at "w"
  refine s_cut (fun σ' H' => Kp [] H H' ∧ ∃ (X : Addr) (xs : List V) (z : Option V), σ' = [some (.ref t), some (.ref o), some (.int b), some (.str s), some (.int i), some (.int j), z, some (.ref X)] ∧ H' X = some (.lst xs) ∧ xs.length ≤ 10 ∧ ∀ x ∈ xs, ∃ f, CV H' x f) ?_ ?_
  · walk_at "w"
    intro ws hws
    have hw : ∀ w ∈ (["joined", "left", "right", "lost", "", "open"] : List Str), PyData.strOk w = true := by decide +kernel
    have kw := Kp.refl.new (ms := []) (o := .lst [.str "joined", .str "left", .str "right", .str "lost", .str "", .str "open"]) hws
    have hws1 : upd H ws (.lst [.str "joined", .str "left", .str "right", .str "lost", .str "", .str "open"]) ws = some (.lst ((["joined", "left", "right", "lost", "", "open"] : List Str).map V.str)) := upd_same
    generalize upd H ws (.lst [.str "joined", .str "left", .str "right", .str "lost", .str "", .str "open"]) = H1 at kw hws1 ⊢
    refine w_lcMG (us := (["joined", "left", "right", "lost", "", "open"] : List Str)) (f := V.str) (fun D m acc H' => ∀ x ∈ acc, ∃ T w, x = .ref T ∧ H' T = some (.tup [.str w, .int i, .int j]) ∧ PyData.strOk w = true) hws1 (fun D hD x hx => by simp at hx) ?_ ?_
    · intro D m w acc H' hD hu hal hk hA hJ
      walk_at "w"
      refine ⟨rfl, ?_⟩
      walk_at "w"
      intro T hT
      have hAT := upd_new (o := .tup [.str w, .int i, .int j]) hT hA
      refine w_keepG (hk.new hT) hAT hal (by have := (List.getElem?_eq_some_iff.mp hu).1; rw [sizeLine_eq]; simp at this; omega) hD (fun x hx => ?_)
      rcases List.mem_append.mp hx with z | z
      · obtain ⟨T', w', e1, e2, e3⟩ := hJ x z
        exact ⟨T', w', e1, upd_get (ne_of (upd_new hT e2) hAT (by intro z; cases z)) (upd_new hT e2), e3⟩
      · rw [List.mem_singleton.mp z]
        exact ⟨T, w, rfl, upd_get (ne_of upd_same hAT (by intro z; cases z)) upd_same, hw w (List.mem_of_getElem? hu)⟩
    · intro D acc H' hD hal hk hA hJ
      walk_at "w"
      refine ⟨kw.trans0 hk, D, acc, _, rfl, hA, Nat.le_trans hal (by decide), fun x hx => ?_⟩
      obtain ⟨T', w', rfl, e2, e3⟩ := hJ x hx
      exact ⟨_, .row e2 (by simp [okN, e3])⟩
  rintro σ' H1 ⟨k1, X, xs, z, rfl, hX, hxl, hxs⟩
  refine s_cut (fun σ' H' => Kp [] H H' ∧ ∃ (X : Addr) (xs : List V), σ' = [some (.ref t), some (.ref o), some (.int b), some (.str s), some (.int i), some (.int j), z, some (.ref X)] ∧ H' X = some (.lst xs) ∧ xs.length ≤ 20 ∧ ∀ x ∈ xs, ∃ f, CV H' x f) ?_ ?_
  · walk_at "w"
    intro T1 hT1
    walk_at "w"
    intro T2 hT2
    walk_at "w"
    intro T3 hT3
    walk_at "w"
    intro Y hY
    walk_at "w"
    intro Z hZ
    walk_at "w"
    refine ⟨k1.trans0 (by walk_at "kp"), Z, _, rfl, upd_same, by simp; omega, cv_app (cv_kp hxs (by walk_at "kp")) (fun x hx => ?_)⟩
    simp only [List.mem_cons, List.mem_nil_iff, or_false] at hx
    rcases hx with rfl | rfl | rfl
    · exact ⟨_, .row (p := T1) (vs := [.str s, .int (i + b), .int j]) (by walk_at "hp") (by simp [okN, hs])⟩
    · exact ⟨_, .row (p := T2) (vs := [.str s, .int i, .int (j + b)]) (by walk_at "hp") (by simp [okN, hs])⟩
    · exact ⟨_, .row (p := T3) (vs := [.str s, .int (i - b), .int j]) (by walk_at "hp") (by simp [okN, hs])⟩
  clear hX hxl hxs
  clear X xs
  rintro σ' H2 ⟨k2, X, xs, rfl, hX, hxl, hxs⟩
  have ho2 := k2.at0 ho
  refine s_cut (fun σ' H' => Kp [] H H' ∧ ∃ (X : Addr) (xs : List V), σ' = [some (.ref t), some (.ref o), some (.int b), some (.str s), some (.int i), some (.int j), z, some (.ref X)] ∧ H' X = some (.lst xs) ∧ xs.length ≤ 30 ∧ ∀ x ∈ xs, ∃ f, CV H' x f) ?_ ?_
  · walk_at "w"
    intro T1 hT1
    walk_at "w"
    intro T2 hT2
    walk_at "w"
    intro T3 hT3
    walk_at "w"
    intro T4 hT4
    walk_at "w"
    intro Y hY
    walk_at "w"
    intro Z hZ
    walk_at "w"
    refine ⟨k2.trans0 (by walk_at "kp"), Z, _, rfl, upd_same, by simp; omega, cv_app (cv_kp hxs (by walk_at "kp")) (fun x hx => ?_)⟩
    simp only [List.mem_cons, List.mem_nil_iff, or_false] at hx
    rcases hx with rfl | rfl | rfl | rfl | rfl
    · exact ⟨_, .row (p := T1) (vs := [.str s, .int i, .int (j - b)]) (by walk_at "hp") (by simp [okN, hs])⟩
    · exact ⟨_, .row (p := T2) (vs := [.str s, .int j, .int i]) (by walk_at "hp") (by simp [okN, hs])⟩
    · exact ⟨_, .row (p := o) (vs := [.str s2, .int i2, .int j2]) (by walk_at "hp") hs3⟩
    · exact ⟨_, .lrow (p := T3) (x := s) (vs := [.int i, .int j]) (by walk_at "hp") (by simp [okN, hs])⟩
    · exact ⟨_, .row (p := T4) (vs := [.str s, .int i]) (by walk_at "hp") (by simp [okN, hs])⟩
  clear hX hxl hxs k1 ho2 k2
  clear X xs
  rintro σ' H3 ⟨k3, X, xs, rfl, hX, hxl, hxs⟩
  refine s_cut (fun σ' H' => Kp [] H H' ∧ ∃ (X : Addr) (xs : List V), σ' = [some (.ref t), some (.ref o), some (.int b), some (.str s), some (.int i), some (.int j), z, some (.ref X)] ∧ H' X = some (.lst xs) ∧ xs.length ≤ 40 ∧ ∀ x ∈ xs, ∃ f, CV H' x f) ?_ ?_
  · walk_at "w"
    intro T1 hT1
    walk_at "w"
    intro T2 hT2
    walk_at "w"
    intro T3 hT3
    walk_at "w"
    intro T4 hT4
    walk_at "w"
    intro Y hY
    walk_at "w"
    intro Z hZ
    walk_at "w"
    refine ⟨k3.trans0 (by walk_at "kp"), Z, _, rfl, upd_same, by simp; omega, cv_app (cv_kp hxs (by walk_at "kp")) (fun x hx => ?_)⟩
    simp only [List.mem_cons, List.mem_nil_iff, or_false] at hx
    rcases hx with rfl | rfl | rfl | rfl
    · exact ⟨_, .row (p := T1) (vs := [.str s, .int i, .int j, .int j]) (by walk_at "hp") (by simp [okN, hs])⟩
    · exact ⟨_, .row (p := T2) (vs := [.int i, .str s, .int j]) (by walk_at "hp") (by simp [okN, hs])⟩
    · exact ⟨_, .row (p := T3) (vs := [.str s, .str (strI i), .int j]) (by walk_at "hp") (by simp [okN, hs, hsi])⟩
    · exact ⟨_, .row (p := T4) (vs := [.str s, .int i, .non]) (by walk_at "hp") (by simp [okN, hs])⟩
  clear hX hxl hxs k3
  clear X xs
  rintro σ' H4 ⟨k4, X, xs, rfl, hX, hxl, hxs⟩
  have ho4 := k4.at0 ho
  walk_at "w"
  intro T1 hT1
  walk_at "w"
  intro U1 hU1
  walk_at "w"
  intro T2 hT2
  walk_at "w"
  intro U2 hU2
  walk_at "w"
  intro U3 hU3
  walk_at "w"
  intro U4 hU4
  walk_at "w"
  intro Y hY
  walk_at "w"
  intro Z hZ
  have e0 : PyData.strOk ("" : Str) = true := by decide +kernel
  refine k Z _ _ (k4.free (by walk_at "fr")) (k4.trans0 (by walk_at "kp")) upd_same (by simp) (by simp; omega) (cv_app (cv_kp hxs (by walk_at "kp")) (fun x hx => ?_))
  simp only [List.mem_cons, List.mem_nil_iff, or_false] at hx
  rcases hx with rfl | rfl | rfl | rfl | rfl | rfl | rfl | rfl
  · exact ⟨_, .tref (p := U1) (q := T1) (pre := []) (vs := [.str s, .int i, .int j]) (by walk_at "hp") rfl (by simp) (by walk_at "hp") (by simp [okN, hs])⟩
  · exact ⟨_, .tref (p := U2) (q := T2) (pre := [.str s]) (vs := [.int i, .int j]) (by walk_at "hp") (by simp [okN, hs]) (by simp) (by walk_at "hp") (by simp [okN])⟩
  · exact ⟨_, .non⟩
  · exact ⟨_, .str hs⟩
  · exact ⟨_, .int i⟩
  · exact ⟨_, .row (p := U3) (vs := []) (by walk_at "hp") rfl⟩
  · exact ⟨_, .str e0⟩
  · exact ⟨_, .lref (p := U4) (q := o) (vs := [.str s2, .int i2, .int j2]) (by walk_at "hp") (by walk_at "hp") hs3⟩
/-! ### judged, all papers -/
def sp__law_judged (a : AD) : Sp := fun vs H Q _ => ∃ (n g : Int) (d t : Addr) (log : List Int) (v : V) (f : Str → Int → Int → Bool), vs = [.int n, .ref d, .int g, v, .ref t] ∧ 0 ≤ n ∧ n ≤ 60 ∧ H d = some (.lst (log.map V.int)) ∧ log.length ≤ 1000 ∧ okTo n (s0 n) log log.length ∧ 0 ≤ g ∧ g ≤ n ∧ CV H v f ∧ H t = some (.tup (papR n log g)) ∧ ∀ H', Kp [] H H' → Q (.bl true) H'
theorem sc__law_judged : FnScope ["_law_size_here", "_law_deeds", "_law_place", "_law_value", "_law_due", "_law_told"] ["_law_size_here", "_law_deeds", "_law_place", "_law_value", "_law_due"] (defScope s__law_judged) := ⟨rfl, rfl, rfl, by decide +kernel, rfl, by decide +kernel, by decide +kernel⟩
theorem ok__law_judged {P : Program} {w : World} {K : PySem.W.Frag} {mg : Str → Option Value} {base : Heap} {a : AD} (T : Txt P K mg a) (G_is_gap_certificate : FnA P w K mg base 8 a.f_is_gap_certificate ["size", "log", "gap", "value"] (sp_is_gap_certificate a)) : FnA P w K mg base 9 a.f__law_judged ["_law_size_here", "_law_deeds", "_law_place", "_law_value", "_law_due"] (sp__law_judged a) := by
  obtain ⟨fd, F, b⟩ := T.F__law_judged
  refine FnA.of F sc__law_judged b (fun vs H Q E h => by first | (obtain ⟨rfl, _⟩ := h; rfl) | (obtain ⟨_, rfl, _⟩ := h; rfl) | (obtain ⟨_, _, rfl, _⟩ := h; rfl) | (obtain ⟨_, _, _, rfl, _⟩ := h; rfl) | (obtain ⟨_, _, _, _, rfl, _⟩ := h; rfl) | (obtain ⟨_, _, _, _, _, rfl, _⟩ := h; rfl) | (obtain ⟨_, _, _, _, _, _, rfl, _⟩ := h; rfl) | (obtain ⟨_, _, _, _, _, _, _, rfl, _⟩ := h; rfl) | (obtain ⟨_, _, _, _, _, _, _, _, rfl, _⟩ := h; rfl) | (obtain ⟨_, _, _, _, _, _, _, _, _, rfl, _⟩ := h; rfl) | (obtain ⟨_, _, _, _, _, _, _, _, _, _, rfl, _⟩ := h; rfl) | (obtain ⟨_, _, _, _, _, _, _, _, _, _, _, rfl, _⟩ := h; rfl) | (obtain ⟨_, _, _, _, _, _, _, _, _, _, _, _, rfl, _⟩ := h; rfl) | (obtain ⟨_, _, _, _, _, _, _, _, _, _, _, _, _, rfl, _⟩ := h; rfl) | (obtain ⟨_, _, _, _, _, _, _, _, _, _, _, _, _, _, rfl, _⟩ := h; rfl) | (obtain ⟨_, _, _, _, _, _, _, _, _, _, _, _, _, _, _, rfl, _⟩ := h; rfl) | (obtain ⟨_, _, _, _, _, _, _, _, _, _, _, _, _, _, _, _, rfl, _⟩ := h; rfl) | (obtain ⟨_, _, _, _, _, _, _, _, _, _, _, _, _, _, _, _, _, rfl, _⟩ := h; rfl) | (obtain ⟨_, _, _, _, _, _, _, _, _, _, _, _, _, _, _, _, _, _, rfl, _⟩ := h; rfl) | (obtain ⟨_, _, _, _, _, _, _, _, _, _, _, _, _, _, _, _, _, _, _, rfl, _⟩ := h; rfl) | (obtain ⟨_, _, _, _, _, _, _, _, _, _, _, _, _, _, _, _, _, _, _, _, rfl, _⟩ := h; rfl) | (obtain ⟨_, _, _, _, _, _, _, _, _, _, _, _, _, _, _, _, _, _, _, _, _, rfl, _⟩ := h; rfl) | (obtain ⟨_, _, _, _, _, _, _, _, _, _, _, _, _, _, _, _, _, _, _, _, _, _, rfl, _⟩ := h; rfl) | (obtain ⟨_, _, _, _, _, _, _, _, _, _, _, _, _, _, _, _, _, _, _, _, _, _, _, rfl, _⟩ := h; rfl)) (fun cdv A outer s H vs Q E hr tk pz h => ?_)
  have hu := hr.units
  have hrH := L2H.roomH_of hr
  obtain ⟨n, g, d, t, log, v, f, rfl, n0, n1, hd, hlen, hok, g0, g1, hv, ht, k⟩ := h
  refine ⟨_, (pss_cons (ps_set (i := 5) sc__law_judged.nd rfl (Or.inl rfl) (pe_callA G_is_gap_certificate (Room.mono hr (by decide)) T.n_is_gap_certificate tk (pa_cons (pv 0) (pa_cons (pv 1) (pa_cons (pv 2) (pa_cons (pv 3) pa_nil))))))
      (pss_one (ps_ret (pe_and (pe_callB (call_isi) rfl T.b_isinstance (by decide +kernel) (pa_cons (pv 5) (pa_cons (pe_bltn (v := .ty "bool") rfl T.b_bool (by decide +kernel) rfl) pa_nil))) (pe_one (pe_cmpR (o_eq hu) (pv 5) (pe_cmpR (o_eq hu) (pv 3) (pv 4) (nomark _)) (nomark _))))))), ?_⟩
  show (_ : Ends → L2.St → Hp → Prop) _ [some _, some _, some _, some _, some _, none] _
  try dsimp only [L2H.cxH, cxOf]
  have hso : PyData.strOk (stateOf (runS (s0 n) log).1 (runS (s0 n) log).2.1 g) = true := by
    unfold stateOf
    split <;> split <;> decide +kernel
  walk_at "w"
  refine ⟨n, g, d, log, v, f, rfl, hd, by omega, hv.sh, log_ok n0 n1 hok ⟨fun z => absurd ⟨g0, g1⟩ z, fun _ _ H1 k1 => ?_⟩⟩
  have ht1 := k1.at0 ht
  have hv1 := hv.kp0 k1
  unfold papR at ht1
  walk_at "w"
  refine CV.eq hv1 ht1 hso ?_
  generalize f (stateOf (runS (s0 n) log).1 (runS (s0 n) log).2.1 g) ((wrR (s0 n) log n log.length).getD g.toNat default) ((wrL (s0 n) log n log.length).getD g.toNat default) = r
  walk_at "w"
  rw [show decide (r = r) = true by simp]
  exact k H1 k1
def sp__law_papers_fit (a : AD) : Sp := fun vs H Q _ => ∃ (n : Int) (d q pp b : Addr) (log gs : List Int) (xs : List V), vs = [.int n, .ref d, .ref q, .ref pp, .ref b] ∧ 0 ≤ n ∧ n ≤ 60 ∧ H d = some (.lst (log.map V.int)) ∧ log.length ≤ 1000 ∧ okTo n (s0 n) log log.length ∧ H q = some (.lst (gs.map V.int)) ∧ gs.length ≤ 100 ∧ gs ≠ [] ∧ (∀ g ∈ gs, 0 ≤ g ∧ g ≤ n) ∧ H pp = some (.lst xs) ∧ Tps H xs (papL n log (n + 1).toNat) ∧ Bag H b ∧ d ≠ b ∧ q ≠ b ∧ pp ≠ b ∧ ∀ H', Kp [b] H H' → Bag H' b → Q (.bl true) H'
theorem Tps.kpB {H H' : Hp} {b : Addr} {xs : List V} {ts : List (List V)} (h : Tps H xs ts) (B : Bag H b) (k : Kp [b] H H') : Tps H' xs ts := h.kpm k (by
  intro m hm
  rw [List.mem_singleton.mp hm]
  obtain ⟨c, m', j, e, _⟩ := B
  exact ⟨_, e⟩)
theorem sc__law_papers_fit : FnScope ["_law_size_here", "_law_deeds", "_law_places_here", "_law_papers", "_law_bag_here", "_law_far", "_law_place", "_law_due", "_law_bents_here", "_law_turn", "_law_picked", "_law_value", "_law_at", "_law_bent"] ["_law_size_here", "_law_deeds", "_law_places_here", "_law_papers", "_law_bag_here"] (defScope s__law_papers_fit) := ⟨rfl, rfl, rfl, by decide +kernel, rfl, by decide +kernel, by decide +kernel⟩
theorem ok__law_papers_fit {P : Program} {w : World} {K : PySem.W.Frag} {mg : Str → Option Value} {base : Heap} {a : AD} (T : Txt P K mg a) (G__law_draw : FnA P w K mg base 2 a.f__law_draw ["_law_bag_here", "_law_many"] (sp__law_draw a)) (G__law_is_paper : FnA P w K mg base 3 a.f__law_is_paper ["_law_told", "_law_due"] (sp__law_is_paper a)) (G_gap_certificate : FnA P w K mg base 7 a.f_gap_certificate ["size", "log", "gap"] (sp_gap_certificate a)) (G__law_judged : FnA P w K mg base 9 a.f__law_judged ["_law_size_here", "_law_deeds", "_law_place", "_law_value", "_law_due"] (sp__law_judged a)) (G__law_bents : FnA P w K mg base 2 a.f__law_bents ["_law_due", "_law_other", "_law_by"] (sp__law_bents a)) (G_is_gap_certificate : FnA P w K mg base 8 a.f_is_gap_certificate ["size", "log", "gap", "value"] (sp_is_gap_certificate a)) : FnA P w K mg base 10 a.f__law_papers_fit ["_law_size_here", "_law_deeds", "_law_places_here", "_law_papers", "_law_bag_here"] (sp__law_papers_fit a) := by
  obtain ⟨fd, F, b⟩ := T.F__law_papers_fit
  refine FnA.of F sc__law_papers_fit b (fun vs H Q E h => by first | (obtain ⟨rfl, _⟩ := h; rfl) | (obtain ⟨_, rfl, _⟩ := h; rfl) | (obtain ⟨_, _, rfl, _⟩ := h; rfl) | (obtain ⟨_, _, _, rfl, _⟩ := h; rfl) | (obtain ⟨_, _, _, _, rfl, _⟩ := h; rfl) | (obtain ⟨_, _, _, _, _, rfl, _⟩ := h; rfl) | (obtain ⟨_, _, _, _, _, _, rfl, _⟩ := h; rfl) | (obtain ⟨_, _, _, _, _, _, _, rfl, _⟩ := h; rfl) | (obtain ⟨_, _, _, _, _, _, _, _, rfl, _⟩ := h; rfl) | (obtain ⟨_, _, _, _, _, _, _, _, _, rfl, _⟩ := h; rfl) | (obtain ⟨_, _, _, _, _, _, _, _, _, _, rfl, _⟩ := h; rfl) | (obtain ⟨_, _, _, _, _, _, _, _, _, _, _, rfl, _⟩ := h; rfl) | (obtain ⟨_, _, _, _, _, _, _, _, _, _, _, _, rfl, _⟩ := h; rfl) | (obtain ⟨_, _, _, _, _, _, _, _, _, _, _, _, _, rfl, _⟩ := h; rfl) | (obtain ⟨_, _, _, _, _, _, _, _, _, _, _, _, _, _, rfl, _⟩ := h; rfl) | (obtain ⟨_, _, _, _, _, _, _, _, _, _, _, _, _, _, _, rfl, _⟩ := h; rfl) | (obtain ⟨_, _, _, _, _, _, _, _, _, _, _, _, _, _, _, _, rfl, _⟩ := h; rfl) | (obtain ⟨_, _, _, _, _, _, _, _, _, _, _, _, _, _, _, _, _, rfl, _⟩ := h; rfl) | (obtain ⟨_, _, _, _, _, _, _, _, _, _, _, _, _, _, _, _, _, _, rfl, _⟩ := h; rfl) | (obtain ⟨_, _, _, _, _, _, _, _, _, _, _, _, _, _, _, _, _, _, _, rfl, _⟩ := h; rfl) | (obtain ⟨_, _, _, _, _, _, _, _, _, _, _, _, _, _, _, _, _, _, _, _, rfl, _⟩ := h; rfl) | (obtain ⟨_, _, _, _, _, _, _, _, _, _, _, _, _, _, _, _, _, _, _, _, _, rfl, _⟩ := h; rfl) | (obtain ⟨_, _, _, _, _, _, _, _, _, _, _, _, _, _, _, _, _, _, _, _, _, _, rfl, _⟩ := h; rfl) | (obtain ⟨_, _, _, _, _, _, _, _, _, _, _, _, _, _, _, _, _, _, _, _, _, _, _, rfl, _⟩ := h; rfl)) (fun cdv A outer s H vs Q E hr tk pz h => ?_)
  have hu := hr.units
  have hrH := L2H.roomH_of hr
  obtain ⟨n, d, q, pp, b, log, gs, xs, rfl, n0, n1, hd, hlen, hok, hq, hgl, hgne, hgs, hpp, hT, hB, db, qb, ppb, k⟩ := h
  refine ⟨_, (pss_cons (ps_set (i := 5) sc__law_papers_fit.nd rfl (Or.inl rfl) (pe_ix ix_seq (pv 2) (pe_callA G__law_draw (Room.mono hr (by decide)) T.n__law_draw tk (pa_cons (pv 4) (pa_cons (pe_callB (b_len) rfl T.b_len (by decide +kernel) (pa_cons (pv 2) pa_nil)) pa_nil))) (fun _ _ => rfl)))
      (pss_cons (ps_for pz rfl (pi_list (pv 2)) (pg_name (i := 6) sc__law_papers_fit.nd rfl (Or.inl rfl))
      (pss_cons (ps_set (i := 7) sc__law_papers_fit.nd rfl (Or.inl rfl) (pe_ix ix_seq (pv 3) (pv 6) (fun _ _ => rfl)))
      (pss_cons (ps_if (pt_not (pt_tru (pe_callA G__law_is_paper (Room.mono hr (by decide)) T.n__law_is_paper tk (pa_cons (pe_callA G_gap_certificate (Room.mono hr (by decide)) T.n_gap_certificate tk (pa_cons (pv 0) (pa_cons (pv 1) (pa_cons (pv 6) pa_nil)))) (pa_cons (pv 7) pa_nil))))) (pss_one (ps_ret pe_bl)) pss_nil)
      (pss_cons (ps_if (pt_not (pt_tru (pe_callA G__law_judged (Room.mono hr (by decide)) T.n__law_judged tk (pa_cons (pv 0) (pa_cons (pv 1) (pa_cons (pv 6) (pa_cons (pv 7) (pa_cons (pv 7) pa_nil)))))))) (pss_one (ps_ret pe_bl)) pss_nil)
      (pss_cons (ps_set (i := 8) sc__law_papers_fit.nd rfl (Or.inr rfl) (pe_callA G__law_bents (Room.mono hr (by decide)) T.n__law_bents tk (pa_cons (pv 7) (pa_cons (pe_ix ix_seq (pv 3) (pv 5) (fun _ _ => rfl)) (pa_cons (pe_op o_add pe_int (pe_callA G__law_draw (Room.mono hr (by decide)) T.n__law_draw tk (pa_cons (pv 4) (pa_cons pe_int pa_nil)))) pa_nil)))))
      (pss_cons (ps_setLc (i := 10) (own := [("_law_turn", 9)]) (g := (gName 9)) (tt := tYes) rfl sc__law_papers_fit.nd rfl rfl (sw_true rfl rfl rfl (by decide +kernel)) (pi_range1 rfl T.b_range (pa_cons pe_int pa_nil)) (blkOk_by (own := [("_law_turn", 9)]) (N := ["_law_size_here", "_law_deeds", "_law_places_here", "_law_papers", "_law_bag_here", "_law_far", "_law_place", "_law_due", "_law_bents_here", "_law_turn", "_law_picked", "_law_value", "_law_at", "_law_bent"]) (sc := defScope s__law_papers_fit) (by decide +kernel)) (fun _ _ _ _ _ => (pg_name (i := 9) sc__law_papers_fit.nd rfl (Or.inl rfl))) (fun _ _ _ _ _ => pts_nil) (fun _ _ _ _ _ => (pe_ix (show IxR _ (rIx K) from ix_seq) (pv 8) (pe_callA G__law_draw (Room.mono hr (by decide)) T.n__law_draw takes0 (pa_cons (pv 4) (pa_cons (pe_callB ((show CallR _ _ (rLen K) from b_len)) rfl T.b_len (by decide +kernel) (pa_cons (pv 8) pa_nil)) pa_nil))) (fun _ _ => rfl))))
      (pss_cut (ps_if (pt_cmpA (o_eq hu) (pv 6) (pv 5) (nomark _)) (pss_one (ps_set (i := 10) sc__law_papers_fit.nd rfl (Or.inl rfl) (pe_callA G__law_bents (Room.mono hr (by decide)) T.n__law_bents tk (pa_cons (pv 7) (pa_cons (pe_ix ix_seq (pv 3) (pe_op op_sub (pv 0) (pv 5)) (fun _ _ => rfl)) (pa_cons pe_int pa_nil)))))) pss_nil)
      (pss_cons (ps_for pz rfl (pi_list (pv 10)) (pg_name (i := 11) sc__law_papers_fit.nd rfl (Or.inl rfl))
      (pss_one (ps_if (pt_not (pt_tru (pe_callA G__law_judged (Room.mono hr (by decide)) T.n__law_judged tk (pa_cons (pv 0) (pa_cons (pv 1) (pa_cons (pv 6) (pa_cons (pv 11) (pa_cons (pv 7) pa_nil)))))))) (pss_one (ps_ret pe_bl)) pss_nil)))
      (pss_one (ps_for pz rfl (pi_range2 rfl T.b_range (pa_cons pe_int (pa_cons pe_int pa_nil))) (pg_name (i := 12) sc__law_papers_fit.nd rfl (Or.inl rfl))
      (pss_cons (ps_set (i := 13) sc__law_papers_fit.nd rfl (Or.inl rfl) (pe_callTy b_list rfl T.b_list (by decide +kernel) (pa_cons (pv 7) pa_nil)))
      (pss_cons (ps_asg (pe_cmpR (o_eq hu) (pe_ix ix_seq (pv 7) (pv 12) (fun _ _ => rfl)) pe_int (nomark _)) (pg_sub (pv 13) (pv 12) set_list))
      (pss_one (ps_if (PW.pt (pw_and (pt_cmpA op_in_seq (pe_ix ix_seq (pv 7) (pv 12) (fun _ _ => rfl)) (pe_lst (pa_cons pe_int (pa_cons pe_int pa_nil))) (by rfl)) (pw_and1 (pt_cmpA o_notB (pe_callA G_is_gap_certificate (Room.mono hr (by decide)) T.n_is_gap_certificate tk (pa_cons (pv 0) (pa_cons (pe_callTy b_list rfl T.b_list (by decide +kernel) (pa_cons (pv 1) pa_nil)) (pa_cons (pv 6) (pa_cons (pe_callTy b_tuple rfl T.b_tuple (by decide +kernel) (pa_cons (pv 13) pa_nil)) pa_nil))))) pe_bl (nomark _))))) (pss_one (ps_ret pe_bl)) pss_nil))))))))))))))
      (pss_one (ps_ret pe_bl)))), ?_⟩
  show (_ : Ends → L2.St → Hp → Prop) _ [some _, some _, some _, some _, some _, none, none, none, none, none, none, none, none, none] _
  try dsimp only [L2H.cxH, cxOf]
  have dbm : d ∉ [b] := by simpa using db
  have qbm : q ∉ [b] := by simpa using qb
  have pbm : pp ∉ [b] := by simpa using ppb
  have hxl := hT.len
  have hpl : (papL n log (n + 1).toNat).length = (n + 1).toNat := by simp [papL]
  rw [hpl] at hxl
  have hgp : 0 < gs.length := List.length_pos_iff.mpr hgne
  have hso : ∀ g, PyData.strOk (stateOf (runS (s0 n) log).1 (runS (s0 n) log).2.1 g) = true := by
    intro g
    unfold stateOf
    split <;> split <;> decide +kernel
  have eRl := wrR_len (s0 n) log n log.length
  have hwr : ∀ g : Int, 0 ≤ g → g ≤ n → -1 ≤ (wrR (s0 n) log n log.length).getD g.toNat default ∧ (wrR (s0 n) log n log.length).getD g.toNat default < 1000000 := by
    intro g g0 g1
    have := (wr_ge (s0 n) log n log.length).1 _ (getD_in (us := wrR (s0 n) log n log.length) (i := g.toNat) (by omega))
    omega
  walk_at "w"
  refine ⟨b, _, rfl, hB, by omega, by omega, fun fx H1 f0 f1 B1 k1 => ?_⟩
  have hq1 := k1 q _ hq qbm
  walk_at "w"
  have hfar := hgs _ (getD_in (us := gs) (i := fx.toNat) (by omega))
  generalize gs.getD fx.toNat default = far at hfar ⊢
  walk_at "w"
  refine w_forM (us := gs) (f := V.int) (p := q) hq1 (fun i σ' H' => (∃ z6 z7 z8 z9 z10 z11 z12 z13, σ' = [some (.int n), some (.ref d), some (.ref q), some (.ref pp), some (.ref b), some (.int far), z6, z7, z8, z9, z10, z11, z12, z13]) ∧ Kp [b] H H' ∧ Bag H' b) ⟨⟨_, _, _, _, _, _, _, _, rfl⟩, k1, B1⟩ (fun i σ' H' _ h => h.2.1 q _ hq qbm) ?_ ?_
  · rintro i g σ' H2 hu ⟨⟨z6, z7, z8, z9, z10, z11, z12, z13, rfl⟩, k2, B2⟩
    obtain ⟨g0, g1⟩ := hgs g (List.mem_of_getElem? hu)
    have hpp2 := k2 pp _ hpp pbm
    have hT2 := hT.kpB hB k2
    obtain ⟨r, er, hr⟩ := hT2.get (papL_get (n := n) (log := log) (k := (n + 1).toNat) (i := g.toNat) (by omega))
    rw [show ((g.toNat : Nat) : Int) = g by omega] at hr
    have hd2 := k2 d _ hd dbm
    walk_at "w"
    refine ⟨n, g, d, log, rfl, hd2, by omega, log_ok n0 n1 hok ⟨fun z => absurd ⟨g0, g1⟩ z, fun _ _ t H3 ht k3 ht3 => ?_⟩⟩
    have hr3 := k3.at0 hr
    walk_at "w"
    refine ⟨t, r, _, _, _, rfl, ht3, hr3, ?_⟩
    walk_at "w"
    have hcv : CV H3 (.ref r) (rowF (papR n log g)) := .row hr3 (by simp [papR, okN, hso])
    refine ⟨n, g, d, r, log, _, _, rfl, n0, n1, k3.at0 hd2, hlen, hok, g0, g1, hcv, hr3, fun H4 k4 => ?_⟩
    have k24 := k3.trans0 k4
    have k04 := k2.trans0 k24
    have B4 := B2.kp k24
    have hpp4 := k24.at0 hpp2
    have hr4 := k4.at0 hr3
    have hT4 := hT2.kp0 k24
    obtain ⟨rf, erf, hrf⟩ := hT4.get (papL_get (n := n) (log := log) (k := (n + 1).toNat) (i := far.toNat) (by omega))
    rw [show ((far.toNat : Nat) : Int) = far by omega] at hrf
    clear hcv hr3 ht3 k3 k4 ht hd2 hpp2 k24 hr
    walk_at "w"
    refine ⟨b, _, rfl, B4, by omega, by omega, fun y H5 y0 y1 B5 k5 => ?_⟩
    have kt : ∀ {p vs}, H4 p = some (.tup vs) → H5 p = some (.tup vs) := fun {p vs} e => k5 p _ e (by
      simp only [List.mem_singleton]
      rintro rfl
      obtain ⟨c, m', j, hb, _⟩ := B4
      rw [hb] at e; cases e)
    have hr5 := kt hr4
    have hrf5 := kt hrf
    have hpp5 := k5 pp _ hpp4 pbm
    have hT5 := hT4.kpB B4 k5
    have k05 := k04.trans k5
    walk_at "w"
    refine ⟨r, rf, 1 + y, _, _, _, _, _, _, rfl, hr5, hso g, (hwr g g0 g1).1, (hwr g g0 g1).2, hrf5, hso far, fun X bs H6 hX k6 hX6 hb1 hb2 hcv => ?_⟩
    have B6 := B5.kp k6
    have Xb : X ≠ b := B5.ne hX
    have Xbm : X ∉ [b] := by simpa using Xb
    have k06 := k05.trans0 k6
    have hr6 := k6.at0 hr5
    have hpp6 := k6.at0 hpp5
    have hT6 := hT5.kp0 k6
    clear hr4 hrf hpp4 hT4 kt hr5 hrf5 hpp5 hT5 B4 B5 k5 k05 k04 k2 B2 hT2
    walk_at "w"
    refine w_lcRG1 (n := 2) [b] (fun D i acc H' => Bag H' b ∧ ∀ x ∈ acc, ∃ f, CV H6 x f) (by omega) (by omega) (fun D hD => ⟨B6.new hD, by simp⟩) ?_ ?_
    · rintro D m acc H' hD hm hal hk hA ⟨B', hJ⟩
      have hX' := hk X _ hX6 Xbm
      walk_at "w"
      refine ⟨rfl, ?_⟩
      walk_at "w"
      refine ⟨b, _, rfl, B', by omega, by omega, fun c H8 c0 c1 B8 k8 => ?_⟩
      have hDb : D ≠ b := B6.ne hD
      have hA8 := k8 D _ hA (by simpa using hDb)
      have hX8 := k8 X _ hX' Xbm
      have hcl : c.toNat < bs.length := by omega
      have hbc : bs[c.toNat]? = some bs[c.toNat] := List.getElem?_eq_getElem hcl
      walk_at "w"
      refine w_keepG (hk.trans k8) hA8 hal (by rw [sizeLine_eq]; omega) hD ⟨B8.mut hDb, fun x hx => ?_⟩
      rcases List.mem_append.mp hx with z | z
      · exact hJ x z
      · rw [List.mem_singleton.mp z]
        exact hcv _ (List.getElem_mem _)
    · rintro P ps H7 hP hpl7 k7 hP7 ⟨B7, hJ⟩
      have Pb : P ≠ b := B6.ne hP
      have k07 := k06.trans k7
      have hr7 : H7 r = some (.tup (papR n log g)) := k7 r _ hr6 (by
        simp only [List.mem_singleton]
        rintro rfl
        obtain ⟨c, m', j, hb, _⟩ := B6
        rw [hb] at hr6; cases hr6)
      have hpp7 := k7 pp _ hpp6 pbm
      have hT7 := hT6.kpB B6 k7
      have hcv7 : ∀ x ∈ ps, ∃ f, CV H7 x f := fun x hx => by
        obtain ⟨f, hf⟩ := hJ x hx
        exact ⟨f, hf.kpB B6 k7⟩
      have hpl7' : ps.length ≤ 2 := hpl7
      clear hr6 hpp6 hT6 B6 k7 k06 hX6 hcv hJ hP
      walk_at "w"
      refine s_cut (fun σ' H' => Kp [] H7 H' ∧ ∃ (P : Addr) (ps : List V), σ' = [some (.int n), some (.ref d), some (.ref q), some (.ref pp), some (.ref b), some (.int far), some (.int g), some (.ref r), some (.ref X), z9, some (.ref P), z11, z12, z13] ∧ H' P = some (.lst ps) ∧ ps.length ≤ 100 ∧ ∀ x ∈ ps, ∃ f, CV H' x f) ?_ ?_
      · walk_at "w"
        refine w_ite (fun c => ?_) (fun c => ?_)
        · obtain ⟨ro, ero, hro⟩ := hT7.get (papL_get (n := n) (log := log) (k := (n + 1).toNat) (i := (n - far).toNat) (by omega))
          rw [show (((n - far).toNat : Nat) : Int) = n - far by omega] at hro
          walk_at "w"
          refine ⟨r, ro, 1, _, _, _, _, _, _, rfl, hr7, hso g, (hwr g g0 g1).1, (hwr g g0 g1).2, hro, hso (n - far), fun P2 bs2 H8 hP2 k8 hP28 hb12 hb22 hcv2 => ?_⟩
          walk_at "w"
          exact ⟨k8, P2, bs2, rfl, hP28, hb22, hcv2⟩
        · walk_at "w"
          exact ⟨Kp.refl, P, ps, rfl, hP7, by omega, hcv7⟩
      clear hP7 hpl7' hcv7 hpl7 Pb
      clear P ps
      rintro σ' H8 ⟨k8, P, ps, rfl, hP8, hpl8, hcv8⟩
      have k08 := k07.trans0 k8
      have B8 := B7.kp k8
      have hr8 := k8.at0 hr7
      clear hr7 hT7 hpp7
      walk_at "w"
      refine w_forL hP8 (fun m σ' H' => (∃ z11, σ' = [some (.int n), some (.ref d), some (.ref q), some (.ref pp), some (.ref b), some (.int far), some (.int g), some (.ref r), some (.ref X), z9, some (.ref P), z11, z12, z13]) ∧ Kp [] H8 H') ⟨⟨_, rfl⟩, Kp.refl⟩ (fun m σ' H' _ h => h.2.at0 hP8) ?_ ?_
      · rintro m v σ' H9 hv ⟨⟨z11, rfl⟩, k9⟩
        obtain ⟨f, hf⟩ := hcv8 v (List.mem_of_getElem? hv)
        walk_at "w"
        refine ⟨n, g, d, r, log, v, f, rfl, n0, n1, k9.at0 (k08 d _ hd dbm), hlen, hok, g0, g1, hf.kp0 k9, k9.at0 hr8, fun H10 k10 => ?_⟩
        walk_at "w"
        exact ⟨⟨_, rfl⟩, k9.trans0 k10⟩
      rintro σ' H9 ⟨⟨z11', rfl⟩, k9⟩
      have hr9 := k9.at0 hr8
      have k09 := k08.trans0 k9
      have B9 := B8.kp k9
      walk_at "w"
      refine w_rng2 (lo := 1) (n := 3) (by omega) (by omega) (by omega) (by omega) (fun m σ' H' => (∃ z12 z13, σ' = [some (.int n), some (.ref d), some (.ref q), some (.ref pp), some (.ref b), some (.int far), some (.int g), some (.ref r), some (.ref X), z9, some (.ref P), z11', z12, z13]) ∧ Kp [] H9 H') ⟨⟨_, _, rfl⟩, Kp.refl⟩ ?_ ?_
      · rintro m σ' H10 hm ⟨⟨z12, z13, rfl⟩, k10⟩
        have hr10 := k10.at0 hr9
        have hd10 := k10.at0 (k09 d _ hd dbm)
        unfold papR at hr10
        have step : ∀ (bt : Addr) (vs3 : List V) (H11 : Hp), Kp [] H10 H11 → True := fun _ _ _ _ => trivial
        obtain rfl | rfl : m = 0 ∨ m = 1 := by omega
        · walk_at "w"
          intro bt hbt
          walk_at "w"
          simp only [show ((1 : Int) + ((0 : Nat) : Int)).toNat = 1 from rfl, List.set_cons_succ, List.set_cons_zero]
          intro l hl
          refine w_inI (us := [0, 1]) upd_same ?_
          walk_at "w"
          refine w_ite (fun c => ?_) (fun c => ?_)
          · walk_at "w"
            intro dl hdl
            walk_at "w"
            intro T hT
            walk_at "w"
            refine ⟨n, g, dl, log, _, _, rfl, upd_new hT upd_same, by omega, .tri upd_same (by simp [okV, hso g]), log_ok n0 n1 hok ⟨fun z => absurd ⟨g0, g1⟩ z, fun _ _ H12 k12 => ?_⟩⟩
            rw [show jr (.str _) (.bl _) (.int _) _ _ _ = false from rfl]
            walk_at "w"
            exact ⟨⟨_, _, rfl⟩, k10.trans0 (Kp.trans0 (((((Kp.refl.new hbt).own hbt).new hl).new hdl).new hT) k12)⟩
          · walk_at "w"
            exact ⟨⟨_, _, rfl⟩, k10.trans0 (((Kp.refl.new hbt).own hbt).new hl)⟩
        · walk_at "w"
          intro bt hbt
          walk_at "w"
          simp only [show ((1 : Int) + ((1 : Nat) : Int)).toNat = 2 from rfl, List.set_cons_succ, List.set_cons_zero]
          intro l hl
          refine w_inI (us := [0, 1]) upd_same ?_
          walk_at "w"
          refine w_ite (fun c => ?_) (fun c => ?_)
          · walk_at "w"
            intro dl hdl
            walk_at "w"
            intro T hT
            walk_at "w"
            refine ⟨n, g, dl, log, _, _, rfl, upd_new hT upd_same, by omega, .tri upd_same (by simp [okV, hso g]), log_ok n0 n1 hok ⟨fun z => absurd ⟨g0, g1⟩ z, fun _ _ H12 k12 => ?_⟩⟩
            rw [show jr (.str _) (.int _) (.bl _) _ _ _ = false from rfl]
            walk_at "w"
            exact ⟨⟨_, _, rfl⟩, k10.trans0 (Kp.trans0 (((((Kp.refl.new hbt).own hbt).new hl).new hdl).new hT) k12)⟩
          · walk_at "w"
            exact ⟨⟨_, _, rfl⟩, k10.trans0 (((Kp.refl.new hbt).own hbt).new hl)⟩
      · rintro σ' H10 ⟨⟨z12, z13, rfl⟩, k10⟩
        walk_at "w"
        exact ⟨⟨_, _, _, _, _, _, _, _, rfl⟩, k09.trans0 k10, B9.kp k10⟩
  · rintro σ' H2 ⟨⟨z6, z7, z8, z9, z10, z11, z12, z13, rfl⟩, k2, B2⟩
    walk_at "w"
    exact k H2 k2 B2
/-! ### the program's answers -/
def sp__law_answer (a : AD) : Sp := fun vs H Q _ => ∃ (way n g : Int) (p : Addr) (log : List Int) (row : List V), vs = [.int way, .int n, .ref p, .int g] ∧ H p = some (.lst (log.map V.int)) ∧ log.length ≤ 1000 ∧ (way = 0 ∨ way = 1 ∨ g = 0) ∧ Flt n log g row ∧ ∀ t H', H t = none → Kp [] H H' → H' t = some (.tup row) → Q (.ref t) H'
theorem sc__law_answer : FnScope ["_law_way", "_law_size_here", "_law_deeds", "_law_place", "raised"] ["_law_way", "_law_size_here", "_law_deeds", "_law_place"] (defScope s__law_answer) := ⟨rfl, rfl, rfl, by decide +kernel, rfl, by decide +kernel, by decide +kernel⟩
theorem ok__law_answer {P : Program} {w : World} {K : PySem.W.Frag} {mg : Str → Option Value} {base : Heap} {a : AD} (T : Txt P K mg a) (G_gap_certificate : FnA P w K mg base 7 a.f_gap_certificate ["size", "log", "gap"] (sp_gap_certificate a)) (G_is_gap_certificate : FnA P w K mg base 8 a.f_is_gap_certificate ["size", "log", "gap", "value"] (sp_is_gap_certificate a)) (G_verdict : FnA P w K mg base 6 a.f_verdict ["size", "log"] (sp_verdict a)) (H__law_whole_number : FnHA P w K mg base 2 a.f__law_whole_number ["_law_told"] (sp__law_whole_number a)) : FnA P w K mg base 9 a.f__law_answer ["_law_way", "_law_size_here", "_law_deeds", "_law_place"] (sp__law_answer a) := by
  obtain ⟨fd, F, b⟩ := T.F__law_answer
  refine FnA.of F sc__law_answer b (fun vs H Q E h => by first | (obtain ⟨rfl, _⟩ := h; rfl) | (obtain ⟨_, rfl, _⟩ := h; rfl) | (obtain ⟨_, _, rfl, _⟩ := h; rfl) | (obtain ⟨_, _, _, rfl, _⟩ := h; rfl) | (obtain ⟨_, _, _, _, rfl, _⟩ := h; rfl) | (obtain ⟨_, _, _, _, _, rfl, _⟩ := h; rfl) | (obtain ⟨_, _, _, _, _, _, rfl, _⟩ := h; rfl) | (obtain ⟨_, _, _, _, _, _, _, rfl, _⟩ := h; rfl) | (obtain ⟨_, _, _, _, _, _, _, _, rfl, _⟩ := h; rfl) | (obtain ⟨_, _, _, _, _, _, _, _, _, rfl, _⟩ := h; rfl) | (obtain ⟨_, _, _, _, _, _, _, _, _, _, rfl, _⟩ := h; rfl) | (obtain ⟨_, _, _, _, _, _, _, _, _, _, _, rfl, _⟩ := h; rfl) | (obtain ⟨_, _, _, _, _, _, _, _, _, _, _, _, rfl, _⟩ := h; rfl) | (obtain ⟨_, _, _, _, _, _, _, _, _, _, _, _, _, rfl, _⟩ := h; rfl) | (obtain ⟨_, _, _, _, _, _, _, _, _, _, _, _, _, _, rfl, _⟩ := h; rfl) | (obtain ⟨_, _, _, _, _, _, _, _, _, _, _, _, _, _, _, rfl, _⟩ := h; rfl) | (obtain ⟨_, _, _, _, _, _, _, _, _, _, _, _, _, _, _, _, rfl, _⟩ := h; rfl) | (obtain ⟨_, _, _, _, _, _, _, _, _, _, _, _, _, _, _, _, _, rfl, _⟩ := h; rfl) | (obtain ⟨_, _, _, _, _, _, _, _, _, _, _, _, _, _, _, _, _, _, rfl, _⟩ := h; rfl) | (obtain ⟨_, _, _, _, _, _, _, _, _, _, _, _, _, _, _, _, _, _, _, rfl, _⟩ := h; rfl) | (obtain ⟨_, _, _, _, _, _, _, _, _, _, _, _, _, _, _, _, _, _, _, _, rfl, _⟩ := h; rfl) | (obtain ⟨_, _, _, _, _, _, _, _, _, _, _, _, _, _, _, _, _, _, _, _, _, rfl, _⟩ := h; rfl) | (obtain ⟨_, _, _, _, _, _, _, _, _, _, _, _, _, _, _, _, _, _, _, _, _, _, rfl, _⟩ := h; rfl) | (obtain ⟨_, _, _, _, _, _, _, _, _, _, _, _, _, _, _, _, _, _, _, _, _, _, _, rfl, _⟩ := h; rfl)) (fun cdv A outer s H vs Q E hr tk pz h => ?_)
  have hu := hr.units
  have hrH := L2H.roomH_of hr
  obtain ⟨way, n, g, p, log, row, rfl, hp, hlen, hway, hF, k⟩ := h
  refine ⟨_, (pss_cons (L2N.ps_try_as (i := 4) (tb := fun W => (tIfS (cB (tOp (aEq K) (tVar 0) (tC (.int 0)))) (tDrop (tCallS (sp_gap_certificate a) (WE W) (tCons (tVar 1) (tCons (tCB (rListOf K) (tCons (tVar 2) tNil)) (tCons (tVar 3) tNil))))) (tIfS (cB (tOp (aEq K) (tVar 0) (tC (.int 1)))) (tDrop (tCallS (sp_is_gap_certificate a) (WE W) (tCons (tVar 1) (tCons (tCB (rListOf K) (tCons (tVar 2) tNil)) (tCons (tVar 3) (tCons (tTup (tCons (tC (.str "joined")) (tCons (tUn (rU fun i => .int (-i)) (tC (.int 1))) (tCons (tUn (rU fun i => .int (-i)) (tC (.int 1))) tNil)))) tNil)))))) (tDrop (tCallS (sp_verdict a) (WE W) (tCons (tVar 1) (tCons (tCB (rListOf K) (tCons (tVar 2) tNil)) tNil))))))) (ts := fun ea cls d => (tSeq (tIfS (tNot (cTru K (tCB (rIsG K ea cls d) (tCons (tVar 4) (tCons (tC (.ty "ValueError")) tNil))))) (tRet (tTup (tCons (tC (.str "other")) tNil))) tNext) (tSeq (tIfS (tAnd (cTru K (tCB (rIsG K ea cls d) (tCons (tVar 4) (tCons (tC (.ref a.BadOperation)) tNil)))) (tNot (cTru K (tCB (rIsG K ea cls d) (tCons (tVar 4) (tCons (tC (.ref a.Illegal)) tNil)))))) (tSeq (tIfS (tOr (tNot (cTru K (tCB (rIsG K ea cls d) (tCons (tVar 4) (tCons (tC (.ref a.LogError)) tNil))))) (tNot (cTru K (tCallS (sp__law_whole_number a) (fun _ => E0) (tCons (tXfG K ea cls d "index" (tVar 4)) tNil))))) (tRet (tTup (tCons (tC (.str "other")) tNil))) tNext) (tRet (tTup (tCons (tC (.str "operation")) (tCons (tXfG K ea cls d "operation" (tVar 4)) (tCons (tXfG K ea cls d "index" (tVar 4)) tNil)))))) tNext) (tSeq (tIfS (tAnd (cTru K (tCB (rIsG K ea cls d) (tCons (tVar 4) (tCons (tC (.ref a.Illegal)) tNil)))) (tNot (cTru K (tCB (rIsG K ea cls d) (tCons (tVar 4) (tCons (tC (.ref a.BadOperation)) tNil)))))) (tSeq (tIfS (tOr (tNot (cTru K (tCB (rIsG K ea cls d) (tCons (tVar 4) (tCons (tC (.ref a.LogError)) tNil))))) (tNot (cTru K (tCallS (sp__law_whole_number a) (fun _ => E0) (tCons (tXfG K ea cls d "index" (tVar 4)) tNil))))) (tRet (tTup (tCons (tC (.str "other")) tNil))) tNext) (tRet (tTup (tCons (tC (.str "illegal")) (tCons (tXfG K ea cls d "operation" (tVar 4)) (tCons (tXfG K ea cls d "index" (tVar 4)) tNil)))))) tNext) (tSeq (tIfS (cTru K (tCB (rIsG K ea cls d) (tCons (tVar 4) (tCons (tC (.ref a.LogError)) tNil)))) (tRet (tTup (tCons (tC (.str "other")) tNil))) tNext) (tSeq (tIfS (tAnd (cTru K (tCB (rIsG K ea cls d) (tCons (tVar 4) (tCons (tC (.ref a.BadSize)) tNil)))) (tNot (cTru K (tCB (rIsG K ea cls d) (tCons (tVar 4) (tCons (tC (.ref a.BadGap)) tNil)))))) (tRet (tTup (tCons (tC (.str "size")) (tCons (tXfG K ea cls d "size" (tVar 4)) tNil)))) tNext) (tSeq (tIfS (tAnd (cTru K (tCB (rIsG K ea cls d) (tCons (tVar 4) (tCons (tC (.ref a.BadGap)) tNil)))) (tNot (cTru K (tCB (rIsG K ea cls d) (tCons (tVar 4) (tCons (tC (.ref a.BadSize)) tNil)))))) (tRet (tTup (tCons (tC (.str "gap")) (tCons (tXfG K ea cls d "gap" (tVar 4)) tNil)))) tNext) (tRet (tTup (tCons (tC (.str "other")) tNil)))))))))) rfl rfl sc__law_answer.nd rfl rfl ⟨rfl, by decide, Or.inl T.c_LinkError⟩ tk
      (fun W pn xe tk2 pz => (pss_one (ps_if (pt_cmpA (o_eq hu) (pv 0) pe_int (nomark _)) (pss_one (ps_expr (pe_callA G_gap_certificate (Room.mono hr (by decide)) T.n_gap_certificate tk2 (pa_cons (pv 1) (pa_cons (pe_callTy b_list rfl T.b_list (by decide +kernel) (pa_cons (pv 2) pa_nil)) (pa_cons (pv 3) pa_nil)))))) (pss_one (ps_if (pt_cmpA (o_eq hu) (pv 0) pe_int (nomark _)) (pss_one (ps_expr (pe_callA G_is_gap_certificate (Room.mono hr (by decide)) T.n_is_gap_certificate tk2 (pa_cons (pv 1) (pa_cons (pe_callTy b_list rfl T.b_list (by decide +kernel) (pa_cons (pv 2) pa_nil)) (pa_cons (pv 3) (pa_cons (pe_tup (pa_cons pe_str (pa_cons (pe_un un_neg pe_int) (pa_cons (pe_un un_neg pe_int) pa_nil)))) pa_nil))))))) (pss_one (ps_expr (pe_callA G_verdict (Room.mono hr (by decide)) T.n_verdict tk2 (pa_cons (pv 1) (pa_cons (pe_callTy b_list rfl T.b_list (by decide +kernel) (pa_cons (pv 2) pa_nil)) pa_nil))))))))))
      (fun ea oe cls d pn hz hf => (pss_cons (ps_if (pt_not (pt_tru (pe_callB (by exact call_isG (L2N.Zn.zc hz) hf) rfl T.b_isinstance (by decide +kernel) (pa_cons (pv 4) (pa_cons (pe_bltn (v := .ty "ValueError") rfl T.b_ValueError (by decide +kernel) rfl) pa_nil))))) (pss_one (ps_ret (pe_tup (pa_cons pe_str pa_nil)))) pss_nil)
      (pss_cons (ps_if (PW.pt (pw_and (pt_tru (pe_callB (by exact call_isG (L2N.Zn.zc hz) hf) rfl T.b_isinstance (by decide +kernel) (pa_cons (pv 4) (pa_cons (pe_glob (v := .ref a.BadOperation) rfl T.c_BadOperation rfl) pa_nil)))) (pw_and1 (pt_not (pt_tru (pe_callB (by exact call_isG (L2N.Zn.zc hz) hf) rfl T.b_isinstance (by decide +kernel) (pa_cons (pv 4) (pa_cons (pe_glob (v := .ref a.Illegal) rfl T.c_Illegal rfl) pa_nil)))))))) (pss_cons (ps_if (PW.pt (pw_or (pt_not (pt_tru (pe_callB (by exact call_isG (L2N.Zn.zc hz) hf) rfl T.b_isinstance (by decide +kernel) (pa_cons (pv 4) (pa_cons (pe_glob (v := .ref a.LogError) rfl T.c_LogError rfl) pa_nil))))) (pw_or1 (pt_not (pt_tru (pe_callHA H__law_whole_number (roomH_s hrH (by decide) rfl rfl) (hot_suite hz hf) T.n__law_whole_number (pa_cons (by exact pe_xfG (L2N.Zn.zc hz) hf (pv 4)) pa_nil))))))) (pss_one (ps_ret (pe_tup (pa_cons pe_str pa_nil)))) pss_nil)
      (pss_one (ps_ret (pe_tup (pa_cons pe_str (pa_cons (by exact pe_xfG (L2N.Zn.zc hz) hf (pv 4)) (pa_cons (by exact pe_xfG (L2N.Zn.zc hz) hf (pv 4)) pa_nil))))))) pss_nil)
      (pss_cons (ps_if (PW.pt (pw_and (pt_tru (pe_callB (by exact call_isG (L2N.Zn.zc hz) hf) rfl T.b_isinstance (by decide +kernel) (pa_cons (pv 4) (pa_cons (pe_glob (v := .ref a.Illegal) rfl T.c_Illegal rfl) pa_nil)))) (pw_and1 (pt_not (pt_tru (pe_callB (by exact call_isG (L2N.Zn.zc hz) hf) rfl T.b_isinstance (by decide +kernel) (pa_cons (pv 4) (pa_cons (pe_glob (v := .ref a.BadOperation) rfl T.c_BadOperation rfl) pa_nil)))))))) (pss_cons (ps_if (PW.pt (pw_or (pt_not (pt_tru (pe_callB (by exact call_isG (L2N.Zn.zc hz) hf) rfl T.b_isinstance (by decide +kernel) (pa_cons (pv 4) (pa_cons (pe_glob (v := .ref a.LogError) rfl T.c_LogError rfl) pa_nil))))) (pw_or1 (pt_not (pt_tru (pe_callHA H__law_whole_number (roomH_s hrH (by decide) rfl rfl) (hot_suite hz hf) T.n__law_whole_number (pa_cons (by exact pe_xfG (L2N.Zn.zc hz) hf (pv 4)) pa_nil))))))) (pss_one (ps_ret (pe_tup (pa_cons pe_str pa_nil)))) pss_nil)
      (pss_one (ps_ret (pe_tup (pa_cons pe_str (pa_cons (by exact pe_xfG (L2N.Zn.zc hz) hf (pv 4)) (pa_cons (by exact pe_xfG (L2N.Zn.zc hz) hf (pv 4)) pa_nil))))))) pss_nil)
      (pss_cons (ps_if (pt_tru (pe_callB (by exact call_isG (L2N.Zn.zc hz) hf) rfl T.b_isinstance (by decide +kernel) (pa_cons (pv 4) (pa_cons (pe_glob (v := .ref a.LogError) rfl T.c_LogError rfl) pa_nil)))) (pss_one (ps_ret (pe_tup (pa_cons pe_str pa_nil)))) pss_nil)
      (pss_cons (ps_if (PW.pt (pw_and (pt_tru (pe_callB (by exact call_isG (L2N.Zn.zc hz) hf) rfl T.b_isinstance (by decide +kernel) (pa_cons (pv 4) (pa_cons (pe_glob (v := .ref a.BadSize) rfl T.c_BadSize rfl) pa_nil)))) (pw_and1 (pt_not (pt_tru (pe_callB (by exact call_isG (L2N.Zn.zc hz) hf) rfl T.b_isinstance (by decide +kernel) (pa_cons (pv 4) (pa_cons (pe_glob (v := .ref a.BadGap) rfl T.c_BadGap rfl) pa_nil)))))))) (pss_one (ps_ret (pe_tup (pa_cons pe_str (pa_cons (by exact pe_xfG (L2N.Zn.zc hz) hf (pv 4)) pa_nil))))) pss_nil)
      (pss_cons (ps_if (PW.pt (pw_and (pt_tru (pe_callB (by exact call_isG (L2N.Zn.zc hz) hf) rfl T.b_isinstance (by decide +kernel) (pa_cons (pv 4) (pa_cons (pe_glob (v := .ref a.BadGap) rfl T.c_BadGap rfl) pa_nil)))) (pw_and1 (pt_not (pt_tru (pe_callB (by exact call_isG (L2N.Zn.zc hz) hf) rfl T.b_isinstance (by decide +kernel) (pa_cons (pv 4) (pa_cons (pe_glob (v := .ref a.BadSize) rfl T.c_BadSize rfl) pa_nil)))))))) (pss_one (ps_ret (pe_tup (pa_cons pe_str (pa_cons (by exact pe_xfG (L2N.Zn.zc hz) hf (pv 4)) pa_nil))))) pss_nil)
      (pss_one (ps_ret (pe_tup (pa_cons pe_str pa_nil))))))))))))
      (pss_one (ps_ret (pe_tup (pa_cons pe_str pa_nil))))), ?_⟩
  show (_ : Ends → L2.St → Hp → Prop) _ [some _, some _, some _, some _, none] _
  try dsimp only [L2H.cxH, cxOf]
  walk_at "w"
  refine w_ite (fun c1 => ?_) (fun c1 => ?_)
  · walk_at "w"
    intro q hq
    have kq := Kp.refl.new (ms := []) (o := .lst (log.map V.int)) hq
    have hq1 : upd H q (.lst (log.map V.int)) q = some (.lst (log.map V.int)) := upd_same
    generalize upd H q (.lst (log.map V.int)) = H1 at kq hq1 ⊢
    walk_at "w"
    cases hF with
    | size hz =>
      refine ⟨n, g, q, log, rfl, hq1, by omega, fun _ d H3 hd hd3 k3 => ?_, fun z1 z2 => absurd ⟨z1, z2⟩ hz⟩
      refine w_asT T.t_BadSize_LinkError.2 (fun y hy => ?_)
      walk_at "w"
      intro t ht
      exact k t _ ((kq.trans0 k3).free ht) ((kq.trans0 k3).new ht) upd_same
    | op i o n0 n1 hb hx =>
      refine ⟨n, g, q, log, rfl, hq1, by omega, fun z => absurd ⟨n0, n1⟩ z, fun _ _ => ⟨fun j o' ho' hok' z d H3 hd hd3 k3 => ?_, fun j o' ho' hok' z z2 => ?_, fun hok' => (badIx_no hok' hb).elim⟩⟩
      · obtain ⟨rfl, rfl⟩ := badIx_un hb ⟨ho', hok', fun w => z w.1⟩
        refine w_asT T.t_BadOperation_LinkError.2 (fun y hy => ?_)
        walk_at "w"
        refine ⟨_, rfl, ?_⟩
        walk_at "w"
        intro t ht
        exact k t _ ((kq.trans0 k3).free ht) ((kq.trans0 k3).new ht) upd_same
      · obtain ⟨rfl, rfl⟩ := badIx_un hb ⟨ho', hok', fun w => w.2 z2⟩
        exact absurd z hx
    | ill i o n0 n1 hb hx =>
      refine ⟨n, g, q, log, rfl, hq1, by omega, fun z => absurd ⟨n0, n1⟩ z, fun _ _ => ⟨fun j o' ho' hok' z => ?_, fun j o' ho' hok' z z2 d H3 hd hd3 k3 => ?_, fun hok' => (badIx_no hok' hb).elim⟩⟩
      · obtain ⟨rfl, rfl⟩ := badIx_un hb ⟨ho', hok', fun w => z w.1⟩
        exact absurd hx z
      · obtain ⟨rfl, rfl⟩ := badIx_un hb ⟨ho', hok', fun w => w.2 z2⟩
        refine w_asT T.t_Illegal_LinkError.2 (fun y hy => ?_)
        walk_at "w"
        refine ⟨_, rfl, ?_⟩
        walk_at "w"
        intro t ht
        exact k t _ ((kq.trans0 k3).free ht) ((kq.trans0 k3).new ht) upd_same
    | gap n0 n1 hok hx =>
      refine ⟨n, g, q, log, rfl, hq1, by omega, log_ok n0 n1 hok ⟨fun _ H2 k2 d H3 hd hd3 k3 => ?_, fun z1 z2 => absurd ⟨z1, z2⟩ hx⟩⟩
      refine w_asT T.t_BadGap_LinkError.2 (fun y hy => ?_)
      walk_at "w"
      intro t ht
      exact k t _ ((kq.trans0 (k2.trans0 k3)).free ht) ((kq.trans0 (k2.trans0 k3)).new ht) upd_same
    | done n0 n1 hok g0 g1 =>
      refine ⟨n, g, q, log, rfl, hq1, by omega, log_ok n0 n1 hok ⟨fun z => absurd ⟨g0, g1⟩ z, fun _ _ t3 H3 _ k3 _ => ?_⟩⟩
      walk_at "w"
      intro t ht
      exact k t _ ((kq.trans0 k3).free ht) ((kq.trans0 k3).new ht) upd_same
  walk_at "w"
  refine w_ite (fun c2 => ?_) (fun c2 => ?_)
  · walk_at "w"
    intro q hq
    have kq := Kp.refl.new (ms := []) (o := .lst (log.map V.int)) hq
    have hq1 : upd H q (.lst (log.map V.int)) q = some (.lst (log.map V.int)) := upd_same
    generalize upd H q (.lst (log.map V.int)) = H1 at kq hq1 ⊢
    walk_at "w"
    intro tj hT
    replace kq := kq.new (o := .tup [.str "joined", .int (-1), .int (-1)]) hT
    have hT1 : upd H1 tj (.tup [.str "joined", .int (-1), .int (-1)]) tj = some (.tup [.str "joined", .int (-1), .int (-1)]) := upd_same
    replace hq1 := upd_new (o := .tup [.str "joined", .int (-1), .int (-1)]) hT hq1
    generalize upd H1 tj (.tup [.str "joined", .int (-1), .int (-1)]) = H2 at kq hT1 hq1 ⊢
    have hj : PyData.strOk ("joined" : Str) = true := by decide +kernel
    walk_at "w"
    cases hF with
    | size hz =>
      refine ⟨n, g, q, log, _, _, rfl, hq1, by omega, .tri hT1 (by simp [okV, hj]), fun _ d H3 hd hd3 k3 => ?_, fun z1 z2 => absurd ⟨z1, z2⟩ hz⟩
      refine w_asT T.t_BadSize_LinkError.2 (fun y hy => ?_)
      walk_at "w"
      intro t ht
      exact k t _ ((kq.trans0 k3).free ht) ((kq.trans0 k3).new ht) upd_same
    | op i o n0 n1 hb hx =>
      refine ⟨n, g, q, log, _, _, rfl, hq1, by omega, .tri hT1 (by simp [okV, hj]), fun z => absurd ⟨n0, n1⟩ z, fun _ _ => ⟨fun j o' ho' hok' z d H3 hd hd3 k3 => ?_, fun j o' ho' hok' z z2 => ?_, fun hok' => (badIx_no hok' hb).elim⟩⟩
      · obtain ⟨rfl, rfl⟩ := badIx_un hb ⟨ho', hok', fun w => z w.1⟩
        refine w_asT T.t_BadOperation_LinkError.2 (fun y hy => ?_)
        walk_at "w"
        refine ⟨_, rfl, ?_⟩
        walk_at "w"
        intro t ht
        exact k t _ ((kq.trans0 k3).free ht) ((kq.trans0 k3).new ht) upd_same
      · obtain ⟨rfl, rfl⟩ := badIx_un hb ⟨ho', hok', fun w => w.2 z2⟩
        exact absurd z hx
    | ill i o n0 n1 hb hx =>
      refine ⟨n, g, q, log, _, _, rfl, hq1, by omega, .tri hT1 (by simp [okV, hj]), fun z => absurd ⟨n0, n1⟩ z, fun _ _ => ⟨fun j o' ho' hok' z => ?_, fun j o' ho' hok' z z2 d H3 hd hd3 k3 => ?_, fun hok' => (badIx_no hok' hb).elim⟩⟩
      · obtain ⟨rfl, rfl⟩ := badIx_un hb ⟨ho', hok', fun w => z w.1⟩
        exact absurd hx z
      · obtain ⟨rfl, rfl⟩ := badIx_un hb ⟨ho', hok', fun w => w.2 z2⟩
        refine w_asT T.t_Illegal_LinkError.2 (fun y hy => ?_)
        walk_at "w"
        refine ⟨_, rfl, ?_⟩
        walk_at "w"
        intro t ht
        exact k t _ ((kq.trans0 k3).free ht) ((kq.trans0 k3).new ht) upd_same
    | gap n0 n1 hok hx =>
      refine ⟨n, g, q, log, _, _, rfl, hq1, by omega, .tri hT1 (by simp [okV, hj]), log_ok n0 n1 hok ⟨fun _ H2 k2 d H3 hd hd3 k3 => ?_, fun z1 z2 => absurd ⟨z1, z2⟩ hx⟩⟩
      refine w_asT T.t_BadGap_LinkError.2 (fun y hy => ?_)
      walk_at "w"
      intro t ht
      exact k t _ ((kq.trans0 (k2.trans0 k3)).free ht) ((kq.trans0 (k2.trans0 k3)).new ht) upd_same
    | done n0 n1 hok g0 g1 =>
      refine ⟨n, g, q, log, _, _, rfl, hq1, by omega, .tri hT1 (by simp [okV, hj]), log_ok n0 n1 hok ⟨fun z => absurd ⟨g0, g1⟩ z, fun _ _ H3 k3 => ?_⟩⟩
      walk_at "w"
      intro t ht
      exact k t _ ((kq.trans0 k3).free ht) ((kq.trans0 k3).new ht) upd_same
  · walk_at "w"
    intro q hq
    have kq := Kp.refl.new (ms := []) (o := .lst (log.map V.int)) hq
    have hq1 : upd H q (.lst (log.map V.int)) q = some (.lst (log.map V.int)) := upd_same
    generalize upd H q (.lst (log.map V.int)) = H1 at kq hq1 ⊢
    walk_at "w"
    cases hF with
    | size hz =>
      refine ⟨n, q, log, rfl, hq1, by omega, fun _ d H3 hd hd3 k3 => ?_, fun z1 z2 => absurd ⟨z1, z2⟩ hz⟩
      refine w_asT T.t_BadSize_LinkError.2 (fun y hy => ?_)
      walk_at "w"
      intro t ht
      exact k t _ ((kq.trans0 k3).free ht) ((kq.trans0 k3).new ht) upd_same
    | op i o n0 n1 hb hx =>
      refine ⟨n, q, log, rfl, hq1, by omega, fun z => absurd ⟨n0, n1⟩ z, fun _ _ => ⟨fun j o' ho' hok' z d H3 hd hd3 k3 => ?_, fun j o' ho' hok' z z2 => ?_, fun hok' => (badIx_no hok' hb).elim⟩⟩
      · obtain ⟨rfl, rfl⟩ := badIx_un hb ⟨ho', hok', fun w => z w.1⟩
        refine w_asT T.t_BadOperation_LinkError.2 (fun y hy => ?_)
        walk_at "w"
        refine ⟨_, rfl, ?_⟩
        walk_at "w"
        intro t ht
        exact k t _ ((kq.trans0 k3).free ht) ((kq.trans0 k3).new ht) upd_same
      · obtain ⟨rfl, rfl⟩ := badIx_un hb ⟨ho', hok', fun w => w.2 z2⟩
        exact absurd z hx
    | ill i o n0 n1 hb hx =>
      refine ⟨n, q, log, rfl, hq1, by omega, fun z => absurd ⟨n0, n1⟩ z, fun _ _ => ⟨fun j o' ho' hok' z => ?_, fun j o' ho' hok' z z2 d H3 hd hd3 k3 => ?_, fun hok' => (badIx_no hok' hb).elim⟩⟩
      · obtain ⟨rfl, rfl⟩ := badIx_un hb ⟨ho', hok', fun w => z w.1⟩
        exact absurd hx z
      · obtain ⟨rfl, rfl⟩ := badIx_un hb ⟨ho', hok', fun w => w.2 z2⟩
        refine w_asT T.t_Illegal_LinkError.2 (fun y hy => ?_)
        walk_at "w"
        refine ⟨_, rfl, ?_⟩
        walk_at "w"
        intro t ht
        exact k t _ ((kq.trans0 k3).free ht) ((kq.trans0 k3).new ht) upd_same
    | gap n0 n1 hok hx =>
      rcases hway with z | z | z
      · exact absurd z (by omega)
      · exact absurd z (by omega)
      · exact absurd ⟨by omega, by omega⟩ hx
    | done n0 n1 hok g0 g1 =>
      refine ⟨n, q, log, rfl, hq1, by omega, log_ok n0 n1 hok (fun x1 q1 H3 k3 _ => ?_)⟩
      walk_at "w"
      intro t ht
      exact k t _ ((kq.trans0 k3).free ht) ((kq.trans0 k3).new ht) upd_same
/-! ### agreeing -/
def sp__law_agrees (a : AD) : Sp := fun vs H Q _ => ∃ (n : Int) (d q b : Addr) (log gs : List Int), vs = [.int n, .ref d, .ref q, .ref b] ∧ 0 ≤ n ∧ n ≤ 60 ∧ H d = some (.lst (log.map V.int)) ∧ log.length ≤ 1000 ∧ okTo n (s0 n) log log.length ∧ H q = some (.lst (gs.map V.int)) ∧ gs.length ≤ 100 ∧ gs ≠ [] ∧ (∀ g ∈ gs, 0 ≤ g ∧ g ≤ n) ∧ Bag H b ∧ d ≠ b ∧ q ≠ b ∧ ∀ H', Kp [b] H H' → Bag H' b → Q (.bl true) H'
theorem sc__law_agrees : FnScope ["_law_size_here", "_law_deeds", "_law_places_here", "_law_bag_here", "_law_book_here", "_law_given"] ["_law_size_here", "_law_deeds", "_law_places_here", "_law_bag_here"] (defScope s__law_agrees) := ⟨rfl, rfl, rfl, by decide +kernel, rfl, by decide +kernel, by decide +kernel⟩
theorem ok__law_agrees {P : Program} {w : World} {K : PySem.W.Frag} {mg : Str → Option Value} {base : Heap} {a : AD} (T : Txt P K mg a) (G__law_book : FnA P w K mg base 3 a.f__law_book ["_law_size_here", "_law_deeds"] (sp__law_book a)) (G__law_verdict_fits : FnA P w K mg base 5 a.f__law_verdict_fits ["_law_told", "_law_book_here"] (sp__law_verdict_fits a)) (G_verdict : FnA P w K mg base 6 a.f_verdict ["size", "log"] (sp_verdict a)) (G__law_papers_fit : FnA P w K mg base 10 a.f__law_papers_fit ["_law_size_here", "_law_deeds", "_law_places_here", "_law_papers", "_law_bag_here"] (sp__law_papers_fit a)) : FnA P w K mg base 11 a.f__law_agrees ["_law_size_here", "_law_deeds", "_law_places_here", "_law_bag_here"] (sp__law_agrees a) := by
  obtain ⟨fd, F, b⟩ := T.F__law_agrees
  refine FnA.of F sc__law_agrees b (fun vs H Q E h => by first | (obtain ⟨rfl, _⟩ := h; rfl) | (obtain ⟨_, rfl, _⟩ := h; rfl) | (obtain ⟨_, _, rfl, _⟩ := h; rfl) | (obtain ⟨_, _, _, rfl, _⟩ := h; rfl) | (obtain ⟨_, _, _, _, rfl, _⟩ := h; rfl) | (obtain ⟨_, _, _, _, _, rfl, _⟩ := h; rfl) | (obtain ⟨_, _, _, _, _, _, rfl, _⟩ := h; rfl) | (obtain ⟨_, _, _, _, _, _, _, rfl, _⟩ := h; rfl) | (obtain ⟨_, _, _, _, _, _, _, _, rfl, _⟩ := h; rfl) | (obtain ⟨_, _, _, _, _, _, _, _, _, rfl, _⟩ := h; rfl) | (obtain ⟨_, _, _, _, _, _, _, _, _, _, rfl, _⟩ := h; rfl) | (obtain ⟨_, _, _, _, _, _, _, _, _, _, _, rfl, _⟩ := h; rfl) | (obtain ⟨_, _, _, _, _, _, _, _, _, _, _, _, rfl, _⟩ := h; rfl) | (obtain ⟨_, _, _, _, _, _, _, _, _, _, _, _, _, rfl, _⟩ := h; rfl) | (obtain ⟨_, _, _, _, _, _, _, _, _, _, _, _, _, _, rfl, _⟩ := h; rfl) | (obtain ⟨_, _, _, _, _, _, _, _, _, _, _, _, _, _, _, rfl, _⟩ := h; rfl) | (obtain ⟨_, _, _, _, _, _, _, _, _, _, _, _, _, _, _, _, rfl, _⟩ := h; rfl) | (obtain ⟨_, _, _, _, _, _, _, _, _, _, _, _, _, _, _, _, _, rfl, _⟩ := h; rfl) | (obtain ⟨_, _, _, _, _, _, _, _, _, _, _, _, _, _, _, _, _, _, rfl, _⟩ := h; rfl) | (obtain ⟨_, _, _, _, _, _, _, _, _, _, _, _, _, _, _, _, _, _, _, rfl, _⟩ := h; rfl) | (obtain ⟨_, _, _, _, _, _, _, _, _, _, _, _, _, _, _, _, _, _, _, _, rfl, _⟩ := h; rfl) | (obtain ⟨_, _, _, _, _, _, _, _, _, _, _, _, _, _, _, _, _, _, _, _, _, rfl, _⟩ := h; rfl) | (obtain ⟨_, _, _, _, _, _, _, _, _, _, _, _, _, _, _, _, _, _, _, _, _, _, rfl, _⟩ := h; rfl) | (obtain ⟨_, _, _, _, _, _, _, _, _, _, _, _, _, _, _, _, _, _, _, _, _, _, _, rfl, _⟩ := h; rfl)) (fun cdv A outer s H vs Q E hr tk pz h => ?_)
  have hu := hr.units
  have hrH := L2H.roomH_of hr
  obtain ⟨n, d, q, b, log, gs, rfl, n0, n1, hd, hlen, hok, hq, hgl, hgne, hgs, hB, db, qb, k⟩ := h
  refine ⟨_, (pss_cons (ps_set (i := 4) sc__law_agrees.nd rfl (Or.inl rfl) (pe_callA G__law_book (Room.mono hr (by decide)) T.n__law_book tk (pa_cons (pv 0) (pa_cons (pv 1) pa_nil))))
      (pss_cons (ps_set (i := 5) sc__law_agrees.nd rfl (Or.inl rfl) (pe_callTy b_list rfl T.b_list (by decide +kernel) (pa_cons (pv 1) pa_nil)))
      (pss_cons (ps_if (pt_not (pt_tru (pe_callA G__law_verdict_fits (Room.mono hr (by decide)) T.n__law_verdict_fits tk (pa_cons (pe_callA G_verdict (Room.mono hr (by decide)) T.n_verdict tk (pa_cons (pv 0) (pa_cons (pv 5) pa_nil))) (pa_cons (pv 4) pa_nil))))) (pss_one (ps_ret pe_bl)) pss_nil)
      (pss_cons (ps_if (pt_not (pt_tru (pe_callA G__law_papers_fit (Room.mono hr (by decide)) T.n__law_papers_fit tk (pa_cons (pv 0) (pa_cons (pv 5) (pa_cons (pv 2) (pa_cons (pe_ix ix_seq (pv 4) pe_int (fun _ _ => rfl)) (pa_cons (pv 3) pa_nil)))))))) (pss_one (ps_ret pe_bl)) pss_nil)
      (pss_one (ps_ret (pe_cmpR (o_eq hu) (pv 5) (pv 1) (nomark _)))))))), ?_⟩
  show (_ : Ends → L2.St → Hp → Prop) _ [some _, some _, some _, some _, none, none] _
  try dsimp only [L2H.cxH, cxOf]
  walk_at "w"
  refine ⟨n, d, log, rfl, n0, n1, hd, hlen, hok, fun bk pp st gn xs H1 hbk hbk1 hpp1 hT1 hst1 hgn1 k1 => ?_⟩
  have hd1 := k1.at0 hd
  have B1 := hB.kp k1
  walk_at "w"
  intro e he
  have ke := Kp.refl.new (ms := []) (o := .lst (log.map V.int)) he
  have he2 : upd H1 e (.lst (log.map V.int)) e = some (.lst (log.map V.int)) := upd_same
  have eb : e ≠ b := B1.ne he
  generalize upd H1 e (.lst (log.map V.int)) = H2 at ke he2 ⊢
  walk_at "w"
  refine ⟨n, e, log, rfl, he2, by omega, log_ok n0 n1 hok (fun x y H3 k3 hV => ?_)⟩
  have k13 := ke.trans0 k3
  walk_at "w"
  refine ⟨x, y, bk, pp, st, gn, n, log, xs, rfl, n0, n1, hok, hV, k13.at0 hbk1, k13.at0 hpp1, hT1.kp0 k13, k13.at0 hst1, k13.at0 hgn1, ?_⟩
  have hbk3 := k13.at0 hbk1
  have k03 := k1.trans0 k13
  have ppb : pp ≠ b := by
    rintro rfl
    obtain ⟨c, m', j, e', _⟩ := B1
    rw [hpp1] at e'
    obtain ⟨r, er, _⟩ := hT1.get (papL_get (n := n) (log := log) (k := (n + 1).toNat) (i := 0) (by omega))
    cases e'
    cases er
  walk_at "w"
  refine ⟨n, e, q, pp, b, log, gs, xs, rfl, n0, n1, k3.at0 he2, hlen, hok, k03.at0 hq, hgl, hgne, hgs, k13.at0 hpp1, hT1.kp0 k13, B1.kp k13, eb, qb, ppb, fun H4 k4 B4 => ?_⟩
  have hd4 := k4 d _ (k03.at0 hd) (by simpa using db)
  have he4 := k4 e _ (k3.at0 he2) (by simpa using eb)
  walk_at "w"
  rw [show decide (log = log) = true by simp]
  exact k H4 (fun c o e n => k4 c o (k03 c o e List.not_mem_nil) n) B4
/-! ### refusals, the law -/
def sp__law_refuses (a : AD) : Sp := fun vs H Q _ => ∃ (X : Addr) (xs : List V), vs = [.ref X] ∧ H X = some (.lst xs) ∧ xs.length ≤ 100 ∧ (∀ x ∈ xs, TriOk H x) ∧ ∀ H', Kp [] H H' → Q (.bl true) H'
theorem sc__law_refuses : FnScope ["_law_trials_here", "_law_trial", "_law_due", "_law_way"] ["_law_trials_here"] (defScope s__law_refuses) := ⟨rfl, rfl, rfl, by decide +kernel, rfl, by decide +kernel, by decide +kernel⟩
theorem ok__law_refuses {P : Program} {w : World} {K : PySem.W.Frag} {mg : Str → Option Value} {base : Heap} {a : AD} (T : Txt P K mg a) (G__law_fault : FnA P w K mg base 2 a.f__law_fault ["_law_size_here", "_law_deeds", "_law_place"] (sp__law_fault a)) (G__law_answer : FnA P w K mg base 9 a.f__law_answer ["_law_way", "_law_size_here", "_law_deeds", "_law_place"] (sp__law_answer a)) : FnA P w K mg base 10 a.f__law_refuses ["_law_trials_here"] (sp__law_refuses a) := by
  obtain ⟨fd, F, b⟩ := T.F__law_refuses
  refine FnA.of F sc__law_refuses b (fun vs H Q E h => by first | (obtain ⟨rfl, _⟩ := h; rfl) | (obtain ⟨_, rfl, _⟩ := h; rfl) | (obtain ⟨_, _, rfl, _⟩ := h; rfl) | (obtain ⟨_, _, _, rfl, _⟩ := h; rfl) | (obtain ⟨_, _, _, _, rfl, _⟩ := h; rfl) | (obtain ⟨_, _, _, _, _, rfl, _⟩ := h; rfl) | (obtain ⟨_, _, _, _, _, _, rfl, _⟩ := h; rfl) | (obtain ⟨_, _, _, _, _, _, _, rfl, _⟩ := h; rfl) | (obtain ⟨_, _, _, _, _, _, _, _, rfl, _⟩ := h; rfl) | (obtain ⟨_, _, _, _, _, _, _, _, _, rfl, _⟩ := h; rfl) | (obtain ⟨_, _, _, _, _, _, _, _, _, _, rfl, _⟩ := h; rfl) | (obtain ⟨_, _, _, _, _, _, _, _, _, _, _, rfl, _⟩ := h; rfl) | (obtain ⟨_, _, _, _, _, _, _, _, _, _, _, _, rfl, _⟩ := h; rfl) | (obtain ⟨_, _, _, _, _, _, _, _, _, _, _, _, _, rfl, _⟩ := h; rfl) | (obtain ⟨_, _, _, _, _, _, _, _, _, _, _, _, _, _, rfl, _⟩ := h; rfl) | (obtain ⟨_, _, _, _, _, _, _, _, _, _, _, _, _, _, _, rfl, _⟩ := h; rfl) | (obtain ⟨_, _, _, _, _, _, _, _, _, _, _, _, _, _, _, _, rfl, _⟩ := h; rfl) | (obtain ⟨_, _, _, _, _, _, _, _, _, _, _, _, _, _, _, _, _, rfl, _⟩ := h; rfl) | (obtain ⟨_, _, _, _, _, _, _, _, _, _, _, _, _, _, _, _, _, _, rfl, _⟩ := h; rfl) | (obtain ⟨_, _, _, _, _, _, _, _, _, _, _, _, _, _, _, _, _, _, _, rfl, _⟩ := h; rfl) | (obtain ⟨_, _, _, _, _, _, _, _, _, _, _, _, _, _, _, _, _, _, _, _, rfl, _⟩ := h; rfl) | (obtain ⟨_, _, _, _, _, _, _, _, _, _, _, _, _, _, _, _, _, _, _, _, _, rfl, _⟩ := h; rfl) | (obtain ⟨_, _, _, _, _, _, _, _, _, _, _, _, _, _, _, _, _, _, _, _, _, _, rfl, _⟩ := h; rfl) | (obtain ⟨_, _, _, _, _, _, _, _, _, _, _, _, _, _, _, _, _, _, _, _, _, _, _, rfl, _⟩ := h; rfl)) (fun cdv A outer s H vs Q E hr tk pz h => ?_)
  have hu := hr.units
  have hrH := L2H.roomH_of hr
  obtain ⟨X, xs, rfl, hX, hxl, hxs, k⟩ := h
  refine ⟨_, (pss_cons (ps_for pz rfl (pi_list (pv 0)) (pg_name (i := 1) sc__law_refuses.nd rfl (Or.inl rfl))
      (pss_cons (ps_set (i := 2) sc__law_refuses.nd rfl (Or.inl rfl) (pe_callA G__law_fault (Room.mono hr (by decide)) T.n__law_fault tk (pa_cons (pe_ix ix_seq (pv 1) pe_int (fun _ _ => rfl)) (pa_cons (pe_ix ix_seq (pv 1) pe_int (fun _ _ => rfl)) (pa_cons (pe_ix ix_seq (pv 1) pe_int (fun _ _ => rfl)) pa_nil)))))
      (pss_cons (ps_for pz rfl (pi_range1 rfl T.b_range (pa_cons pe_int pa_nil)) (pg_name (i := 3) sc__law_refuses.nd rfl (Or.inl rfl))
      (pss_one (ps_if (pt_cmpA (o_ne hu) (pe_callA G__law_answer (Room.mono hr (by decide)) T.n__law_answer tk (pa_cons (pv 3) (pa_cons (pe_ix ix_seq (pv 1) pe_int (fun _ _ => rfl)) (pa_cons (pe_ix ix_seq (pv 1) pe_int (fun _ _ => rfl)) (pa_cons (pe_ix ix_seq (pv 1) pe_int (fun _ _ => rfl)) pa_nil))))) (pv 2) (nomark _)) (pss_one (ps_ret pe_bl)) pss_nil)))
      (pss_one (ps_if (pt_cmpA (o_ne hu) (pe_callA G__law_answer (Room.mono hr (by decide)) T.n__law_answer tk (pa_cons pe_int (pa_cons (pe_ix ix_seq (pv 1) pe_int (fun _ _ => rfl)) (pa_cons (pe_ix ix_seq (pv 1) pe_int (fun _ _ => rfl)) (pa_cons pe_int pa_nil))))) (pe_callA G__law_fault (Room.mono hr (by decide)) T.n__law_fault tk (pa_cons (pe_ix ix_seq (pv 1) pe_int (fun _ _ => rfl)) (pa_cons (pe_ix ix_seq (pv 1) pe_int (fun _ _ => rfl)) (pa_cons pe_int pa_nil)))) (nomark _)) (pss_one (ps_ret pe_bl)) pss_nil)))))
      (pss_one (ps_ret pe_bl))), ?_⟩
  show (_ : Ends → L2.St → Hp → Prop) _ [some _, none, none, none] _
  try dsimp only [L2H.cxH, cxOf]
  walk_at "w"
  refine w_forL hX (fun i σ' H' => (∃ z1 z2 z3, σ' = [some (.ref X), z1, z2, z3]) ∧ Kp [] H H') ⟨⟨_, _, _, rfl⟩, Kp.refl⟩ (fun i σ' H' _ h => h.2.at0 hX) ?_ ?_
  · rintro i v σ' H1 hv ⟨⟨z1, z2, z3, rfl⟩, k1⟩
    obtain ⟨T, q, m, g, us, rfl, hT, hq, hul⟩ := (hxs v (List.mem_of_getElem? hv)).kp0 k1
    obtain ⟨row, hF⟩ := Flt.ex m us g
    obtain ⟨row0, hF0⟩ := Flt.ex m us 0
    walk_at "w"
    refine ⟨m, g, q, us, row, rfl, hq, hul, hF, fun t2 H3 ht2 k3 h2 => ?_⟩
    walk_at "w"
    refine w_rng1 (n := 2) (by omega) (by omega) (fun j σ' H' => (∃ z3, σ' = [some (.ref X), some (.ref T), some (.ref t2), z3]) ∧ Kp [] H3 H') ⟨⟨_, rfl⟩, Kp.refl⟩ ?_ ?_
    · rintro j σ' H4 hj ⟨⟨z3, rfl⟩, k4⟩
      have hT4 := k4.at0 (k3.at0 hT)
      walk_at "w"
      refine ⟨(j : Int), m, g, q, us, row, rfl, k4.at0 (k3.at0 hq), hul, (show (j : Int) = 0 ∨ (j : Int) = 1 ∨ g = 0 by omega), hF, fun t1 H5 ht1 k5 h1 => ?_⟩
      walk_at "w"
      refine w_neT h1 (k5.at0 (k4.at0 h2)) (flat_row hF.ok) (shaped_row hF.ok) ?_
      walk_at "w"
      exact ⟨⟨_, rfl⟩, k4.trans0 k5⟩
    · rintro σ' H4 ⟨⟨z3, rfl⟩, k4⟩
      have hT4 := k4.at0 (k3.at0 hT)
      walk_at "w"
      refine ⟨2, m, 0, q, us, row0, rfl, k4.at0 (k3.at0 hq), hul, .inr (.inr rfl), hF0, fun t1 H5 ht1 k5 h1 => ?_⟩
      have hT5 := k5.at0 hT4
      walk_at "w"
      refine ⟨m, 0, q, us, row0, rfl, k5.at0 (k4.at0 (k3.at0 hq)), hul, hF0, fun t3 H6 ht3 k6 h3 => ?_⟩
      refine w_neT (k6.at0 h1) h3 (flat_row hF0.ok) (shaped_row hF0.ok) ?_
      walk_at "w"
      exact ⟨⟨_, _, _, rfl⟩, (((k1.trans0 k3).trans0 k4).trans0 k5).trans0 k6⟩
  · rintro σ' H1 ⟨⟨z1, z2, z3, rfl⟩, k1⟩
    walk_at "w"
    exact k H1 k1
theorem okTo_take {n : Int} {t : List Int × List Int × List Bool} {us : List Int} (h : okTo n t us us.length) (c : Nat) : okTo n t (us.take c) (us.take c).length := by
  intro j o hj ho
  rw [List.length_take] at hj
  rw [List.getElem?_take_of_lt (by omega)] at ho
  rw [List.take_take, Nat.min_eq_left (by omega)]
  exact h j o (by omega) ho
def spL (K : PySem.W.Frag) : Sp := fun vs H Q E => ∃ (p : Addr) (ns : List Int), vs = [.ref p] ∧ SqL K H p (ns.map V.int) ∧ ns.length ≤ 63 ∧ (∀ H', Kp [] H H' → SqL K H' p (ns.map V.int)) ∧ ∀ H', Q (.bl true) H'
theorem sc_law : FnScope ["_law_script", "_law_bag_here", "_law_more", "_law_size_here", "_law_deeds", "_law_cut", "_law_places_here", "_law_few", "_law_node", "_law_k"] ["_law_script"] (defScope s_law) := ⟨rfl, rfl, rfl, by decide +kernel, rfl, by decide +kernel, by decide +kernel⟩
theorem ok_law {P : Program} {w : World} {K : PySem.W.Frag} {mg : Str → Option Value} {base : Heap} {a : AD} (T : Txt P K mg a) {fd : FuncData} (F : Fun K "law" "law" s_law a.f_law fd) (G__law_bag : FnA P w K mg base 2 a.f__law_bag ["_law_script", "_law_lane"] (sp__law_bag K a)) (G__law_size : FnA P w K mg base 3 a.f__law_size ["_law_bag_here"] (sp__law_size a)) (G__law_log : FnA P w K mg base 4 a.f__law_log ["_law_bag_here", "_law_size_here"] (sp__law_log a)) (G__law_draw : FnA P w K mg base 2 a.f__law_draw ["_law_bag_here", "_law_many"] (sp__law_draw a)) (G__law_places : FnA P w K mg base 3 a.f__law_places ["_law_bag_here", "_law_size_here", "_law_deeds"] (sp__law_places a)) (G__law_agrees : FnA P w K mg base 11 a.f__law_agrees ["_law_size_here", "_law_deeds", "_law_places_here", "_law_bag_here"] (sp__law_agrees a)) (G__law_made : FnA P w K mg base 5 a.f__law_made ["_law_gone", "_law_place", "_law_k"] (sp__law_made a)) (G__law_refuses : FnA P w K mg base 10 a.f__law_refuses ["_law_trials_here"] (sp__law_refuses a)) (G__law_trials : FnA P w K mg base 4 a.f__law_trials ["_law_bag_here", "_law_size_here", "_law_deeds"] (sp__law_trials a)) : FnOk P w K mg base (L2N.CX P w) 12 a.f_law fd ["_law_script"] (spL K) := by
  refine FnOk_of F sc_law (fun vs H Q E h => by first | (obtain ⟨_, rfl, _⟩ := h; rfl) | (obtain ⟨_, _, rfl, _⟩ := h; rfl)) (fun cdv A outer s H vs Q E hr tk pz h => ?_)
  have hu := hr.units
  have hrH := L2H.roomH_of hr
  obtain ⟨p, ns, rfl, hp, hlen, hkeep, k⟩ := h
  refine ⟨_, (pss_cons (ps_set (i := 1) sc_law.nd rfl (Or.inl rfl) (pe_callA G__law_bag (Room.mono hr (by decide)) T.n__law_bag tk (pa_cons (pv 0) (pa_cons pe_int pa_nil))))
      (pss_cons (ps_set (i := 2) sc_law.nd rfl (Or.inl rfl) (pe_callA G__law_bag (Room.mono hr (by decide)) T.n__law_bag tk (pa_cons (pv 0) (pa_cons pe_int pa_nil))))
      (pss_cons (ps_set (i := 3) sc_law.nd rfl (Or.inl rfl) (pe_callA G__law_size (Room.mono hr (by decide)) T.n__law_size tk (pa_cons (pv 1) pa_nil)))
      (pss_cons (ps_set (i := 4) sc_law.nd rfl (Or.inl rfl) (pe_callA G__law_log (Room.mono hr (by decide)) T.n__law_log tk (pa_cons (pv 1) (pa_cons (pv 3) pa_nil))))
      (pss_cons (ps_set (i := 5) sc_law.nd rfl (Or.inl rfl) (pe_callA G__law_draw (Room.mono hr (by decide)) T.n__law_draw tk (pa_cons (pv 2) (pa_cons (pe_op o_add (pe_callB (b_len) rfl T.b_len (by decide +kernel) (pa_cons (pv 4) pa_nil)) pe_int) pa_nil))))
      (pss_cons (ps_set (i := 6) sc_law.nd rfl (Or.inl rfl) (pe_callA G__law_places (Room.mono hr (by decide)) T.n__law_places tk (pa_cons (pv 2) (pa_cons (pv 3) (pa_cons (pv 4) pa_nil)))))
      (pss_cons (ps_set (i := 7) sc_law.nd rfl (Or.inl rfl) (pe_lst (pa_cons (pe_ix ix_seq (pv 6) pe_int (fun _ _ => rfl)) (pa_cons (pe_ix ix_seq (pv 6) (pe_callA G__law_draw (Room.mono hr (by decide)) T.n__law_draw tk (pa_cons (pv 2) (pa_cons (pe_callB (b_len) rfl T.b_len (by decide +kernel) (pa_cons (pv 6) pa_nil)) pa_nil))) (fun _ _ => rfl)) pa_nil))))
      (pss_cons (ps_if (PW.pt (pw_or (pt_not (pt_tru (pe_callA G__law_agrees (Room.mono hr (by decide)) T.n__law_agrees tk (pa_cons (pv 3) (pa_cons (pv 4) (pa_cons (pv 6) (pa_cons (pv 2) pa_nil))))))) (pw_or1 (pt_not (pt_tru (pe_callA G__law_agrees (Room.mono hr (by decide)) T.n__law_agrees tk (pa_cons (pv 3) (pa_cons (pe_slice sl_any (pv 4) po_none (po_some (pv 5))) (pa_cons (pv 7) (pa_cons (pv 2) pa_nil)))))))))) (pss_one (ps_ret pe_bl)) pss_nil)
      (pss_cons (ps_set (i := 8) sc_law.nd rfl (Or.inl rfl) (pe_op o_add pe_int (pe_callA G__law_draw (Room.mono hr (by decide)) T.n__law_draw tk (pa_cons (pv 2) (pa_cons pe_int pa_nil)))))
      (pss_cons (ps_set (i := 9) sc_law.nd rfl (Or.inl rfl) (pe_callA G__law_draw (Room.mono hr (by decide)) T.n__law_draw tk (pa_cons (pv 2) (pa_cons pe_int pa_nil))))
      (pss_cons (ps_if (PW.pt (pw_or (pt_not (pt_tru (pe_callA G__law_made (Room.mono hr (by decide)) T.n__law_made tk (pa_cons (pe_lst pa_nil) (pa_cons pe_non (pa_cons pe_non pa_nil)))))) (pw_or (pt_not (pt_tru (pe_callA G__law_made (Room.mono hr (by decide)) T.n__law_made tk (pa_cons (pe_lst pa_nil) (pa_cons pe_int (pa_cons (pv 9) pa_nil)))))) (pw_or1 (pt_not (pt_tru (pe_callA G__law_made (Room.mono hr (by decide)) T.n__law_made tk (pa_cons (pe_lst pa_nil) (pa_cons (pv 8) (pa_cons pe_int pa_nil)))))))))) (pss_one (ps_ret pe_bl)) pss_nil)
      (pss_cons (ps_if (PW.pt (pw_or (pt_not (pt_tru (pe_callA G__law_made (Room.mono hr (by decide)) T.n__law_made tk (pa_cons (pe_lst (pa_cons (pv 8) pa_nil)) (pa_cons pe_non (pa_cons pe_non pa_nil)))))) (pw_or1 (pt_not (pt_tru (pe_callA G__law_made (Room.mono hr (by decide)) T.n__law_made tk (pa_cons (pe_lst (pa_cons (pv 8) (pa_cons (pe_op o_add (pv 8) pe_int) pa_nil))) (pa_cons (pv 8) (pa_cons (pv 9) pa_nil))))))))) (pss_one (ps_ret pe_bl)) pss_nil)
      (pss_one (ps_ret (pe_callA G__law_refuses (Room.mono hr (by decide)) T.n__law_refuses tk (pa_cons (pe_callA G__law_trials (Room.mono hr (by decide)) T.n__law_trials tk (pa_cons (pv 2) (pa_cons (pv 3) (pa_cons (pv 4) pa_nil)))) pa_nil)))))))))))))))), ?_⟩
  show (_ : Ends → L2.St → Hp → Prop) _ [some _, none, none, none, none, none, none, none, none, none] _
  try dsimp only [L2H.cxH, cxOf]
  walk_at "w"
  refine ⟨p, ns, _, rfl, hp, by omega, by omega, fun b H1 hb B1 k1 => ?_⟩
  walk_at "w"
  refine ⟨p, ns, _, rfl, hkeep H1 k1, by omega, by omega, fun m H2 hm M2 k2 => ?_⟩
  have B2 := B1.kp k2
  have mb : m ≠ b := B1.ne hm
  walk_at "w"
  refine ⟨b, rfl, B2, fun n H3 n0 n1 B3 k3 => ?_⟩
  have M3 := M2.kpm k3 (by simpa using mb)
  walk_at "w"
  refine ⟨b, n, rfl, B3, n0, n1, fun d us H4 hd k4 B4 hd4 hul hok => ?_⟩
  have M4 := M3.kpm k4 (by simpa using mb)
  have dm : d ≠ m := M3.ne hd
  walk_at "w"
  refine ⟨m, _, rfl, M4, by omega, by omega, fun c H5 c0 c1 M5 k5 => ?_⟩
  have hd5 := k5 d _ hd4 (by simpa using dm)
  walk_at "w"
  refine ⟨m, n, d, us, rfl, M5, n0, n1, hd5, hul, fun o ho => ?_, dm, fun q gs H6 hq k6 M6 hq6 hgl hgs hgne => ?_⟩
  · obtain ⟨i, hi, rfl⟩ := List.mem_iff_getElem.mp ho
    exact (hok i _ hi (List.getElem?_eq_getElem hi)).1
  have hd6 := k6 d _ hd5 (by simpa using dm)
  have hqm : q ≠ m := M5.ne hq
  have hgp : 0 < gs.length := List.length_pos_iff.mpr hgne
  clear M2 M3 M4 M5 B1 B2 B3 B4 k1 k2 k3 k4 k5 k6 hd4 hd5
  walk_at "w"
  refine ⟨m, _, rfl, M6, by omega, by omega, fun fx H7 f0 f1 M7 k7 => ?_⟩
  have hq7 := k7 q _ hq6 (by simpa using hqm)
  have hd7 := k7 d _ hd6 (by simpa using dm)
  walk_at "w"
  have hg1 := hgs _ (getD_in (us := gs) (i := Int.toNat 0) (by simpa using hgp))
  have hg2 := hgs _ (getD_in (us := gs) (i := fx.toNat) (by omega))
  intro w hw
  have kw := Kp.refl.new (ms := []) (o := .lst [.int (gs.getD (Int.toNat 0) default), .int (gs.getD fx.toNat default)]) hw
  have hw8 : upd H7 w (.lst [.int (gs.getD (Int.toNat 0) default), .int (gs.getD fx.toNat default)]) w = some (.lst (([gs.getD (Int.toNat 0) default, gs.getD fx.toNat default] : List Int).map V.int)) := upd_same
  have wm : w ≠ m := M7.ne hw
  generalize upd H7 w (.lst [.int (gs.getD (Int.toNat 0) default), .int (gs.getD fx.toNat default)]) = H8 at kw hw8 ⊢
  generalize gs.getD (Int.toNat 0) default = ga at hg1 hw8
  generalize gs.getD fx.toNat default = gb at hg2 hw8
  have hd8 := kw.at0 hd7
  have hq8 := kw.at0 hq7
  have M8 := M7.kp kw
  walk_at "w"
  refine ⟨n, d, q, m, us, gs, rfl, n0, n1, hd8, by omega, hok, hq8, hgl, hgne, hgs, M8, dm, hqm, fun H9 k9 M9 => ?_⟩
  have hd9 := k9 d _ hd8 (by simpa using dm)
  have hw9 := k9 w _ hw8 (by simpa using wm)
  walk_at "w"
  intro e he
  have ke := Kp.refl.new (ms := []) (o := .lst ((cut us none (some c)).map V.int)) he
  have he8 : upd H9 e (.lst ((cut us none (some c)).map V.int)) e = some (.lst ((cut us none (some c)).map V.int)) := upd_same
  rw [cut_front c0 (by omega)] at ke he8 ⊢
  have em : e ≠ m := M9.ne he
  generalize upd H9 e (.lst ((us.take c.toNat).map V.int)) = H10 at ke he8 ⊢
  have hd10 := ke.at0 hd9
  have hw10 := ke.at0 hw9
  have M10 := M9.kp ke
  walk_at "w"
  refine ⟨n, e, w, m, us.take c.toNat, [ga, gb], rfl, n0, n1, he8, by rw [List.length_take]; omega, okTo_take hok _, hw10, by simp, by simp, fun g hg => ?_, M10, em, wm, fun H11 k11 M11 => ?_⟩
  · simp only [List.mem_cons, List.mem_nil_iff, or_false] at hg
    rcases hg with rfl | rfl
    · exact hg1
    · exact hg2
  have hd11 := k11 d _ hd10 (by simpa using dm)
  clear hd6 hd7 hd8 hd9 hd10 hq6 hq7 hq8 hw8 hw9 hw10 he8 M6 M7 M8 M9 M10 k7 kw k9 ke k11 he hw
  walk_at "w"
  refine ⟨m, _, rfl, M11, by omega, by omega, fun nd H12 nd0 nd1 M12 k12 => ?_⟩
  have hd12 := k12 d _ hd11 (by simpa using dm)
  walk_at "w"
  refine ⟨m, _, rfl, M12, by omega, by omega, fun kk H13 kk0 kk1 M13 k13 => ?_⟩
  have hd13 := k13 d _ hd12 (by simpa using dm)
  clear hd11 hd12 M11 M12 k12 k13
  walk_at "w"
  intro e1 he1
  walk_at "w"
  refine ⟨e1, [], _, _, none, none, rfl, upd_same, by simp, rfl, rfl, fun H14 k14 => ?_⟩
  have q14 := Kp.trans0 ((Kp.refl (ms := [])).new he1) k14
  have hd14 := q14.at0 hd13
  have M14 := M13.kp q14
  clear hd13 M13 k14 q14 he1
  walk_at "w"
  intro e2 he2
  walk_at "w"
  refine ⟨e2, [], _, _, some 0, some kk, rfl, upd_same, by simp, rfl, rfl, fun H15 k15 => ?_⟩
  have q15 := Kp.trans0 ((Kp.refl (ms := [])).new he2) k15
  have hd15 := q15.at0 hd14
  have M15 := M14.kp q15
  clear hd14 M14 k15 q15 he2
  walk_at "w"
  intro e3 he3
  walk_at "w"
  refine ⟨e3, [], _, _, some (1 + nd), some 0, rfl, upd_same, by simp, rfl, rfl, fun H16 k16 => ?_⟩
  have q16 := Kp.trans0 ((Kp.refl (ms := [])).new he3) k16
  have hd16 := q16.at0 hd15
  have M16 := M15.kp q16
  clear hd15 M15 k16 q16 he3
  walk_at "w"
  intro e4 he4
  walk_at "w"
  refine ⟨e4, [1 + nd], _, _, none, none, rfl, upd_same, by simp, rfl, rfl, fun H17 k17 => ?_⟩
  have q17 := Kp.trans0 ((Kp.refl (ms := [])).new he4) k17
  have hd17 := q17.at0 hd16
  have M17 := M16.kp q17
  clear hd16 M16 k17 q17 he4
  walk_at "w"
  intro e5 he5
  walk_at "w"
  refine ⟨e5, [1 + nd, 1 + nd + 1], _, _, some (1 + nd), some kk, rfl, upd_same, by simp, rfl, rfl, fun H18 k18 => ?_⟩
  have q18 := Kp.trans0 ((Kp.refl (ms := [])).new he5) k18
  have hd18 := q18.at0 hd17
  have M18 := M17.kp q18
  walk_at "w"
  refine ⟨m, n, d, us, rfl, M18, n0, n1, hd18, hul, dm, fun X xs H19 k19 M19 hX hxl hxs => ?_⟩
  walk_at "w"
  exact ⟨X, xs, rfl, hX, hxl, hxs, fun H20 _ => k H20⟩
theorem SqL.kp' {K : PySem.W.Frag} {H H' : Hp} {p : Addr} {xs : List V} (h : SqL K H p xs) (k : Kp [] H H') : SqL K H' p xs := by
  rcases h with h | h
  · rcases h with h | ⟨o, h⟩
    · exact .inl (.inl (k.at0 h))
    · exact .inl (.inr ⟨o, k.at0 h⟩)
  · exact .inr h
theorem spL_ok {K : PySem.W.Frag} {H : Hp} {a : Addr} {ns : List Int} (hl : ns.length ≤ 63) (hS : SqL K H a (ns.map V.int)) : spL K [.ref a] H (fun v _ => v = .bl true) fun _ _ _ => False := ⟨a, ns, rfl, hS, hl, fun H' k => SqL.kp' hS k, fun _ => rfl⟩
/-- what the top has left -/
theorem all_mk {P : Program} {w : World} {K : PySem.W.Frag} {h : Heap} {mg : Str → Option Value} {fa : Addr} (X : K.In h) (G : h.Ns mainGlobals mg) (hfa : mg "law" = some (.ref fa))
    {f_check_size : Addr} {oc_check_size kV_check_size dc_check_size pm_check_size cd_check_size ct_check_size : Value} {od_check_size an_check_size : Option Addr} {sl_check_size : Array (Option Value)}
    {f_check_operation : Addr} {oc_check_operation kV_check_operation dc_check_operation pm_check_operation cd_check_operation ct_check_operation : Value} {od_check_operation an_check_operation : Option Addr} {sl_check_operation : Array (Option Value)}
    {f_check_log : Addr} {oc_check_log kV_check_log dc_check_log pm_check_log cd_check_log ct_check_log : Value} {od_check_log an_check_log : Option Addr} {sl_check_log : Array (Option Value)}
    {f__is_legal : Addr} {oc__is_legal kV__is_legal dc__is_legal pm__is_legal cd__is_legal ct__is_legal : Value} {od__is_legal an__is_legal : Option Addr} {sl__is_legal : Array (Option Value)}
    {f_check_gap : Addr} {oc_check_gap kV_check_gap dc_check_gap pm_check_gap cd_check_gap ct_check_gap : Value} {od_check_gap an_check_gap : Option Addr} {sl_check_gap : Array (Option Value)}
    {f_left_holds : Addr} {oc_left_holds kV_left_holds dc_left_holds pm_left_holds cd_left_holds ct_left_holds : Value} {od_left_holds an_left_holds : Option Addr} {sl_left_holds : Array (Option Value)}
    {f_right_holds : Addr} {oc_right_holds kV_right_holds dc_right_holds pm_right_holds cd_right_holds ct_right_holds : Value} {od_right_holds an_right_holds : Option Addr} {sl_right_holds : Array (Option Value)}
    {f_gap_state : Addr} {oc_gap_state kV_gap_state dc_gap_state pm_gap_state cd_gap_state ct_gap_state : Value} {od_gap_state an_gap_state : Option Addr} {sl_gap_state : Array (Option Value)}
    {f_gap_states : Addr} {oc_gap_states kV_gap_states dc_gap_states pm_gap_states cd_gap_states ct_gap_states : Value} {od_gap_states an_gap_states : Option Addr} {sl_gap_states : Array (Option Value)}
    {f_replay : Addr} {oc_replay kV_replay dc_replay pm_replay cd_replay ct_replay : Value} {od_replay an_replay : Option Addr} {sl_replay : Array (Option Value)}
    {f_moments : Addr} {oc_moments kV_moments dc_moments pm_moments cd_moments ct_moments : Value} {od_moments an_moments : Option Addr} {sl_moments : Array (Option Value)}
    {f_writers : Addr} {oc_writers kV_writers dc_writers pm_writers cd_writers ct_writers : Value} {od_writers an_writers : Option Addr} {sl_writers : Array (Option Value)}
    {f_decided_by : Addr} {oc_decided_by kV_decided_by dc_decided_by pm_decided_by cd_decided_by ct_decided_by : Value} {od_decided_by an_decided_by : Option Addr} {sl_decided_by : Array (Option Value)}
    {f_verdict : Addr} {oc_verdict kV_verdict dc_verdict pm_verdict cd_verdict ct_verdict : Value} {od_verdict an_verdict : Option Addr} {sl_verdict : Array (Option Value)}
    {f_gap_certificate : Addr} {oc_gap_certificate kV_gap_certificate dc_gap_certificate pm_gap_certificate cd_gap_certificate ct_gap_certificate : Value} {od_gap_certificate an_gap_certificate : Option Addr} {sl_gap_certificate : Array (Option Value)}
    {f__is_integer : Addr} {oc__is_integer kV__is_integer dc__is_integer pm__is_integer cd__is_integer ct__is_integer : Value} {od__is_integer an__is_integer : Option Addr} {sl__is_integer : Array (Option Value)}
    {f_is_gap_certificate : Addr} {oc_is_gap_certificate kV_is_gap_certificate dc_is_gap_certificate pm_is_gap_certificate cd_is_gap_certificate ct_is_gap_certificate : Value} {od_is_gap_certificate an_is_gap_certificate : Option Addr} {sl_is_gap_certificate : Array (Option Value)}
    {f__law_bag : Addr} {oc__law_bag kV__law_bag dc__law_bag pm__law_bag cd__law_bag ct__law_bag : Value} {od__law_bag an__law_bag : Option Addr} {sl__law_bag : Array (Option Value)}
    {f__law_draw : Addr} {oc__law_draw kV__law_draw dc__law_draw pm__law_draw cd__law_draw ct__law_draw : Value} {od__law_draw an__law_draw : Option Addr} {sl__law_draw : Array (Option Value)}
    {f__law_size : Addr} {oc__law_size kV__law_size dc__law_size pm__law_size cd__law_size ct__law_size : Value} {od__law_size an__law_size : Option Addr} {sl__law_size : Array (Option Value)}
    {f__law_whole : Addr} {oc__law_whole kV__law_whole dc__law_whole pm__law_whole cd__law_whole ct__law_whole : Value} {od__law_whole an__law_whole : Option Addr} {sl__law_whole : Array (Option Value)}
    {f__law_planted : Addr} {oc__law_planted kV__law_planted dc__law_planted pm__law_planted cd__law_planted ct__law_planted : Value} {od__law_planted an__law_planted : Option Addr} {sl__law_planted : Array (Option Value)}
    {f__law_log : Addr} {oc__law_log kV__law_log dc__law_log pm__law_log cd__law_log ct__law_log : Value} {od__law_log an__law_log : Option Addr} {sl__law_log : Array (Option Value)}
    {f__law_state : Addr} {oc__law_state kV__law_state dc__law_state pm__law_state cd__law_state ct__law_state : Value} {od__law_state an__law_state : Option Addr} {sl__law_state : Array (Option Value)}
    {f__law_step : Addr} {oc__law_step kV__law_step dc__law_step pm__law_step cd__law_step ct__law_step : Value} {od__law_step an__law_step : Option Addr} {sl__law_step : Array (Option Value)}
    {f__law_whole_number : Addr} {oc__law_whole_number kV__law_whole_number dc__law_whole_number pm__law_whole_number cd__law_whole_number ct__law_whole_number : Value} {od__law_whole_number an__law_whole_number : Option Addr} {sl__law_whole_number : Array (Option Value)}
    {f__law_numbers : Addr} {oc__law_numbers kV__law_numbers dc__law_numbers pm__law_numbers cd__law_numbers ct__law_numbers : Value} {od__law_numbers an__law_numbers : Option Addr} {sl__law_numbers : Array (Option Value)}
    {f__law_number_or_none : Addr} {oc__law_number_or_none kV__law_number_or_none dc__law_number_or_none pm__law_number_or_none cd__law_number_or_none ct__law_number_or_none : Value} {od__law_number_or_none an__law_number_or_none : Option Addr} {sl__law_number_or_none : Array (Option Value)}
    {f__law_book : Addr} {oc__law_book kV__law_book dc__law_book pm__law_book cd__law_book ct__law_book : Value} {od__law_book an__law_book : Option Addr} {sl__law_book : Array (Option Value)}
    {f__law_bears : Addr} {oc__law_bears kV__law_bears dc__law_bears pm__law_bears cd__law_bears ct__law_bears : Value} {od__law_bears an__law_bears : Option Addr} {sl__law_bears : Array (Option Value)}
    {f__law_verdict_fits : Addr} {oc__law_verdict_fits kV__law_verdict_fits dc__law_verdict_fits pm__law_verdict_fits cd__law_verdict_fits ct__law_verdict_fits : Value} {od__law_verdict_fits an__law_verdict_fits : Option Addr} {sl__law_verdict_fits : Array (Option Value)}
    {f__law_made : Addr} {oc__law_made kV__law_made dc__law_made pm__law_made cd__law_made ct__law_made : Value} {od__law_made an__law_made : Option Addr} {sl__law_made : Array (Option Value)}
    {f__law_is_paper : Addr} {oc__law_is_paper kV__law_is_paper dc__law_is_paper pm__law_is_paper cd__law_is_paper ct__law_is_paper : Value} {od__law_is_paper an__law_is_paper : Option Addr} {sl__law_is_paper : Array (Option Value)}
    {f__law_bents : Addr} {oc__law_bents kV__law_bents dc__law_bents pm__law_bents cd__law_bents ct__law_bents : Value} {od__law_bents an__law_bents : Option Addr} {sl__law_bents : Array (Option Value)}
    {f__law_judged : Addr} {oc__law_judged kV__law_judged dc__law_judged pm__law_judged cd__law_judged ct__law_judged : Value} {od__law_judged an__law_judged : Option Addr} {sl__law_judged : Array (Option Value)}
    {f__law_papers_fit : Addr} {oc__law_papers_fit kV__law_papers_fit dc__law_papers_fit pm__law_papers_fit cd__law_papers_fit ct__law_papers_fit : Value} {od__law_papers_fit an__law_papers_fit : Option Addr} {sl__law_papers_fit : Array (Option Value)}
    {f__law_agrees : Addr} {oc__law_agrees kV__law_agrees dc__law_agrees pm__law_agrees cd__law_agrees ct__law_agrees : Value} {od__law_agrees an__law_agrees : Option Addr} {sl__law_agrees : Array (Option Value)}
    {f__law_fault : Addr} {oc__law_fault kV__law_fault dc__law_fault pm__law_fault cd__law_fault ct__law_fault : Value} {od__law_fault an__law_fault : Option Addr} {sl__law_fault : Array (Option Value)}
    {f__law_spoilt : Addr} {oc__law_spoilt kV__law_spoilt dc__law_spoilt pm__law_spoilt cd__law_spoilt ct__law_spoilt : Value} {od__law_spoilt an__law_spoilt : Option Addr} {sl__law_spoilt : Array (Option Value)}
    {f__law_trials : Addr} {oc__law_trials kV__law_trials dc__law_trials pm__law_trials cd__law_trials ct__law_trials : Value} {od__law_trials an__law_trials : Option Addr} {sl__law_trials : Array (Option Value)}
    {f__law_places : Addr} {oc__law_places kV__law_places dc__law_places pm__law_places cd__law_places ct__law_places : Value} {od__law_places an__law_places : Option Addr} {sl__law_places : Array (Option Value)}
    {f__law_answer : Addr} {oc__law_answer kV__law_answer dc__law_answer pm__law_answer cd__law_answer ct__law_answer : Value} {od__law_answer an__law_answer : Option Addr} {sl__law_answer : Array (Option Value)}
    {f__law_refuses : Addr} {oc__law_refuses kV__law_refuses dc__law_refuses pm__law_refuses cd__law_refuses ct__law_refuses : Value} {od__law_refuses an__law_refuses : Option Addr} {sl__law_refuses : Array (Option Value)}
    {f_law : Addr} {oc_law kV_law dc_law pm_law cd_law ct_law : Value} {od_law an_law : Option Addr} {sl_law : Array (Option Value)}
    {f_Links___init__ : Addr} {oc_Links___init__ kV_Links___init__ dc_Links___init__ pm_Links___init__ cd_Links___init__ ct_Links___init__ : Value} {od_Links___init__ an_Links___init__ : Option Addr} {sl_Links___init__ : Array (Option Value)}
    {f_Links_left : Addr} {oc_Links_left kV_Links_left dc_Links_left pm_Links_left cd_Links_left ct_Links_left : Value} {od_Links_left an_Links_left : Option Addr} {sl_Links_left : Array (Option Value)}
    {f_Links_right : Addr} {oc_Links_right kV_Links_right dc_Links_right pm_Links_right cd_Links_right ct_Links_right : Value} {od_Links_right an_Links_right : Option Addr} {sl_Links_right : Array (Option Value)}
    {f_Links_outs : Addr} {oc_Links_outs kV_Links_outs dc_Links_outs pm_Links_outs cd_Links_outs ct_Links_outs : Value} {od_Links_outs an_Links_outs : Option Addr} {sl_Links_outs : Array (Option Value)}
    {f_Links_apply_at : Addr} {oc_Links_apply_at kV_Links_apply_at dc_Links_apply_at pm_Links_apply_at cd_Links_apply_at ct_Links_apply_at : Value} {od_Links_apply_at an_Links_apply_at : Option Addr} {sl_Links_apply_at : Array (Option Value)}
    {f_Verdict___init__ : Addr} {oc_Verdict___init__ kV_Verdict___init__ dc_Verdict___init__ pm_Verdict___init__ cd_Verdict___init__ ct_Verdict___init__ : Value} {od_Verdict___init__ an_Verdict___init__ : Option Addr} {sl_Verdict___init__ : Array (Option Value)}
    {LinkError : Addr}
    {LogError : Addr}
    {BadOperation : Addr} {i_BadOperation : Addr}
    {Illegal : Addr} {i_Illegal : Addr}
    {BadSize : Addr} {i_BadSize : Addr}
    {BadNode : Addr} {i_BadNode : Addr}
    {BadGap : Addr} {i_BadGap : Addr}
    {BadDump : Addr} {i_BadDump : Addr}
    {t_MOST_NODES : Tok}
    {t_MOST_DIGITS : Tok}
    {t_PARTS : Tok}
    {Links : Addr}
    {t_Links_MOST : Tok}
    {Verdict : Addr}
    (a_Links : PySem.W.nsIn K mainGlobals "Links" = some (some (.ref Links)))
    (cl_Links : Cls K Links)
    (rd_Links : ClX.CRead K Links (.type "type"))
    (mk1_Links : PySem.W.makesIn K Links = true) (mk2_Links : PySem.W.findIn K (.ref Links) "__init__" = some (some (.ref f_Links___init__))) (mk3_Links : PySem.W.isFn K (.ref f_Links___init__) = true) (mk4_Links : PySem.W.keepIn K (.ref Links) = true)
    (na_Links_size : NoAttr K Links "size")
    (na_Links__lefts : NoAttr K Links "_lefts")
    (na_Links__rights : NoAttr K Links "_rights")
    (na_Links__flags : NoAttr K Links "_flags")
    (cv_Links_MOST : PySem.W.findCls K (.ref Links) (.type "type") "MOST" = some (.val (.int 60 t_Links_MOST)))
    (a_Verdict : PySem.W.nsIn K mainGlobals "Verdict" = some (some (.ref Verdict)))
    (cl_Verdict : Cls K Verdict)
    (ia_Verdict : PySem.W.findIn K (.ref Verdict) "__class__" = some (some (.builtin "object.__class__"))) (ib_Verdict : PySem.W.specialIn K (.builtin "object.__class__") "__get__" = some (some (.builtin "getset_descriptor.__get__"))) (ic_Verdict : PySem.W.takesIn K (.builtin "object.__class__") = some true) (im_Verdict : PySem.W.mroIn K Verdict (.type "object") = some true)
    (rd_Verdict : ClX.CRead K Verdict (.type "type"))
    (mk1_Verdict : PySem.W.makesIn K Verdict = true) (mk2_Verdict : PySem.W.findIn K (.ref Verdict) "__init__" = some (some (.ref f_Verdict___init__))) (mk3_Verdict : PySem.W.isFn K (.ref f_Verdict___init__) = true) (mk4_Verdict : PySem.W.keepIn K (.ref Verdict) = true)
    (na_Verdict_out_nodes : NoAttr K Verdict "out_nodes")
    (na_Verdict_gap : NoAttr K Verdict "gap")
    (na_Verdict_index : NoAttr K Verdict "index")
    (na_Verdict_whole : NoAttr K Verdict "whole")
    (l_Links___init__ : K.lookup f_Links___init__ = some ⟨oc_Links___init__, od_Links___init__, .func (PySem.W.fnOf "__init__" "Links.__init__" (defArgs s_Links___init__) (defBody s_Links___init__) (defScope s_Links___init__) .none kV_Links___init__ dc_Links___init__ pm_Links___init__ an_Links___init__ cd_Links___init__ ct_Links___init__), sl_Links___init__⟩) (c_Links___init__ : PySem.W.codeIn K cd_Links___init__ "Links.__init__" = true) (k_Links___init__ : PySem.W.keepIn K (.ref f_Links___init__) = true)
    (me1_Links_left : PySem.W.findIn K (.ref Links) "left" = some (some (.ref f_Links_left))) (me2_Links_left : PySem.W.isFn K (.ref f_Links_left) = true)
    (l_Links_left : K.lookup f_Links_left = some ⟨oc_Links_left, od_Links_left, .func (PySem.W.fnOf "left" "Links.left" (defArgs s_Links_left) (defBody s_Links_left) (defScope s_Links_left) .none kV_Links_left dc_Links_left pm_Links_left an_Links_left cd_Links_left ct_Links_left), sl_Links_left⟩) (c_Links_left : PySem.W.codeIn K cd_Links_left "Links.left" = true) (k_Links_left : PySem.W.keepIn K (.ref f_Links_left) = true)
    (me1_Links_right : PySem.W.findIn K (.ref Links) "right" = some (some (.ref f_Links_right))) (me2_Links_right : PySem.W.isFn K (.ref f_Links_right) = true)
    (l_Links_right : K.lookup f_Links_right = some ⟨oc_Links_right, od_Links_right, .func (PySem.W.fnOf "right" "Links.right" (defArgs s_Links_right) (defBody s_Links_right) (defScope s_Links_right) .none kV_Links_right dc_Links_right pm_Links_right an_Links_right cd_Links_right ct_Links_right), sl_Links_right⟩) (c_Links_right : PySem.W.codeIn K cd_Links_right "Links.right" = true) (k_Links_right : PySem.W.keepIn K (.ref f_Links_right) = true)
    (me1_Links_outs : PySem.W.findIn K (.ref Links) "outs" = some (some (.ref f_Links_outs))) (me2_Links_outs : PySem.W.isFn K (.ref f_Links_outs) = true)
    (l_Links_outs : K.lookup f_Links_outs = some ⟨oc_Links_outs, od_Links_outs, .func (PySem.W.fnOf "outs" "Links.outs" (defArgs s_Links_outs) (defBody s_Links_outs) (defScope s_Links_outs) .none kV_Links_outs dc_Links_outs pm_Links_outs an_Links_outs cd_Links_outs ct_Links_outs), sl_Links_outs⟩) (c_Links_outs : PySem.W.codeIn K cd_Links_outs "Links.outs" = true) (k_Links_outs : PySem.W.keepIn K (.ref f_Links_outs) = true)
    (me1_Links_apply_at : PySem.W.findIn K (.ref Links) "apply_at" = some (some (.ref f_Links_apply_at))) (me2_Links_apply_at : PySem.W.isFn K (.ref f_Links_apply_at) = true)
    (l_Links_apply_at : K.lookup f_Links_apply_at = some ⟨oc_Links_apply_at, od_Links_apply_at, .func (PySem.W.fnOf "apply_at" "Links.apply_at" (defArgs s_Links_apply_at) (defBody s_Links_apply_at) (defScope s_Links_apply_at) .none kV_Links_apply_at dc_Links_apply_at pm_Links_apply_at an_Links_apply_at cd_Links_apply_at ct_Links_apply_at), sl_Links_apply_at⟩) (c_Links_apply_at : PySem.W.codeIn K cd_Links_apply_at "Links.apply_at" = true) (k_Links_apply_at : PySem.W.keepIn K (.ref f_Links_apply_at) = true)
    (l_Verdict___init__ : K.lookup f_Verdict___init__ = some ⟨oc_Verdict___init__, od_Verdict___init__, .func (PySem.W.fnOf "__init__" "Verdict.__init__" (defArgs s_Verdict___init__) (defBody s_Verdict___init__) (defScope s_Verdict___init__) .none kV_Verdict___init__ dc_Verdict___init__ pm_Verdict___init__ an_Verdict___init__ cd_Verdict___init__ ct_Verdict___init__), sl_Verdict___init__⟩) (c_Verdict___init__ : PySem.W.codeIn K cd_Verdict___init__ "Verdict.__init__" = true) (k_Verdict___init__ : PySem.W.keepIn K (.ref f_Verdict___init__) = true)
    (a_LinkError : PySem.W.nsIn K mainGlobals "LinkError" = some (some (.ref LinkError)))
    (a_LogError : PySem.W.nsIn K mainGlobals "LogError" = some (some (.ref LogError)))
    (a_BadOperation : PySem.W.nsIn K mainGlobals "BadOperation" = some (some (.ref BadOperation)))
    (a_Illegal : PySem.W.nsIn K mainGlobals "Illegal" = some (some (.ref Illegal)))
    (a_BadSize : PySem.W.nsIn K mainGlobals "BadSize" = some (some (.ref BadSize)))
    (a_BadNode : PySem.W.nsIn K mainGlobals "BadNode" = some (some (.ref BadNode)))
    (a_BadGap : PySem.W.nsIn K mainGlobals "BadGap" = some (some (.ref BadGap)))
    (a_BadDump : PySem.W.nsIn K mainGlobals "BadDump" = some (some (.ref BadDump)))
    (d_LinkError : DC K LinkError)
    (d_LogError : DC K LogError)
    (d_BadOperation : DC K BadOperation)
    (d_Illegal : DC K Illegal)
    (d_BadSize : DC K BadSize)
    (d_BadNode : DC K BadNode)
    (d_BadGap : DC K BadGap)
    (d_BadDump : DC K BadDump)
    (x_BadOperation : LkX.ExcTxt P K BadOperation i_BadOperation ["operation", "index"])
    (e_BadOperation : ExcC K BadOperation ∧ XfC K BadOperation)
    (s_BadOperation_LinkError : PySem.W.subIn K (.ref BadOperation) (.ref LinkError) = some true)
    (s_BadOperation_LogError : PySem.W.subIn K (.ref BadOperation) (.ref LogError) = some true)
    (s_BadOperation_BadOperation : PySem.W.subIn K (.ref BadOperation) (.ref BadOperation) = some true)
    (s_BadOperation_Illegal : PySem.W.subIn K (.ref BadOperation) (.ref Illegal) = some false)
    (s_BadOperation_BadSize : PySem.W.subIn K (.ref BadOperation) (.ref BadSize) = some false)
    (s_BadOperation_BadNode : PySem.W.subIn K (.ref BadOperation) (.ref BadNode) = some false)
    (s_BadOperation_BadGap : PySem.W.subIn K (.ref BadOperation) (.ref BadGap) = some false)
    (s_BadOperation_BadDump : PySem.W.subIn K (.ref BadOperation) (.ref BadDump) = some false)
    (x_Illegal : LkX.ExcTxt P K Illegal i_Illegal ["operation", "index"])
    (e_Illegal : ExcC K Illegal ∧ XfC K Illegal)
    (s_Illegal_LinkError : PySem.W.subIn K (.ref Illegal) (.ref LinkError) = some true)
    (s_Illegal_LogError : PySem.W.subIn K (.ref Illegal) (.ref LogError) = some true)
    (s_Illegal_BadOperation : PySem.W.subIn K (.ref Illegal) (.ref BadOperation) = some false)
    (s_Illegal_Illegal : PySem.W.subIn K (.ref Illegal) (.ref Illegal) = some true)
    (s_Illegal_BadSize : PySem.W.subIn K (.ref Illegal) (.ref BadSize) = some false)
    (s_Illegal_BadNode : PySem.W.subIn K (.ref Illegal) (.ref BadNode) = some false)
    (s_Illegal_BadGap : PySem.W.subIn K (.ref Illegal) (.ref BadGap) = some false)
    (s_Illegal_BadDump : PySem.W.subIn K (.ref Illegal) (.ref BadDump) = some false)
    (x_BadSize : LkX.ExcTxt P K BadSize i_BadSize ["size"])
    (e_BadSize : ExcC K BadSize ∧ XfC K BadSize)
    (s_BadSize_LinkError : PySem.W.subIn K (.ref BadSize) (.ref LinkError) = some true)
    (s_BadSize_LogError : PySem.W.subIn K (.ref BadSize) (.ref LogError) = some false)
    (s_BadSize_BadOperation : PySem.W.subIn K (.ref BadSize) (.ref BadOperation) = some false)
    (s_BadSize_Illegal : PySem.W.subIn K (.ref BadSize) (.ref Illegal) = some false)
    (s_BadSize_BadSize : PySem.W.subIn K (.ref BadSize) (.ref BadSize) = some true)
    (s_BadSize_BadNode : PySem.W.subIn K (.ref BadSize) (.ref BadNode) = some false)
    (s_BadSize_BadGap : PySem.W.subIn K (.ref BadSize) (.ref BadGap) = some false)
    (s_BadSize_BadDump : PySem.W.subIn K (.ref BadSize) (.ref BadDump) = some false)
    (x_BadNode : LkX.ExcTxt P K BadNode i_BadNode ["node"])
    (e_BadNode : ExcC K BadNode ∧ XfC K BadNode)
    (s_BadNode_LinkError : PySem.W.subIn K (.ref BadNode) (.ref LinkError) = some true)
    (s_BadNode_LogError : PySem.W.subIn K (.ref BadNode) (.ref LogError) = some false)
    (s_BadNode_BadOperation : PySem.W.subIn K (.ref BadNode) (.ref BadOperation) = some false)
    (s_BadNode_Illegal : PySem.W.subIn K (.ref BadNode) (.ref Illegal) = some false)
    (s_BadNode_BadSize : PySem.W.subIn K (.ref BadNode) (.ref BadSize) = some false)
    (s_BadNode_BadNode : PySem.W.subIn K (.ref BadNode) (.ref BadNode) = some true)
    (s_BadNode_BadGap : PySem.W.subIn K (.ref BadNode) (.ref BadGap) = some false)
    (s_BadNode_BadDump : PySem.W.subIn K (.ref BadNode) (.ref BadDump) = some false)
    (x_BadGap : LkX.ExcTxt P K BadGap i_BadGap ["gap"])
    (e_BadGap : ExcC K BadGap ∧ XfC K BadGap)
    (s_BadGap_LinkError : PySem.W.subIn K (.ref BadGap) (.ref LinkError) = some true)
    (s_BadGap_LogError : PySem.W.subIn K (.ref BadGap) (.ref LogError) = some false)
    (s_BadGap_BadOperation : PySem.W.subIn K (.ref BadGap) (.ref BadOperation) = some false)
    (s_BadGap_Illegal : PySem.W.subIn K (.ref BadGap) (.ref Illegal) = some false)
    (s_BadGap_BadSize : PySem.W.subIn K (.ref BadGap) (.ref BadSize) = some false)
    (s_BadGap_BadNode : PySem.W.subIn K (.ref BadGap) (.ref BadNode) = some false)
    (s_BadGap_BadGap : PySem.W.subIn K (.ref BadGap) (.ref BadGap) = some true)
    (s_BadGap_BadDump : PySem.W.subIn K (.ref BadGap) (.ref BadDump) = some false)
    (x_BadDump : LkX.ExcTxt P K BadDump i_BadDump ["part"])
    (e_BadDump : ExcC K BadDump ∧ XfC K BadDump)
    (s_BadDump_LinkError : PySem.W.subIn K (.ref BadDump) (.ref LinkError) = some true)
    (s_BadDump_LogError : PySem.W.subIn K (.ref BadDump) (.ref LogError) = some false)
    (s_BadDump_BadOperation : PySem.W.subIn K (.ref BadDump) (.ref BadOperation) = some false)
    (s_BadDump_Illegal : PySem.W.subIn K (.ref BadDump) (.ref Illegal) = some false)
    (s_BadDump_BadSize : PySem.W.subIn K (.ref BadDump) (.ref BadSize) = some false)
    (s_BadDump_BadNode : PySem.W.subIn K (.ref BadDump) (.ref BadNode) = some false)
    (s_BadDump_BadGap : PySem.W.subIn K (.ref BadDump) (.ref BadGap) = some false)
    (s_BadDump_BadDump : PySem.W.subIn K (.ref BadDump) (.ref BadDump) = some true)
    (a_check_size : PySem.W.nsIn K mainGlobals "check_size" = some (some (.ref f_check_size))) (l_check_size : K.lookup f_check_size = some ⟨oc_check_size, od_check_size, .func (PySem.W.fnOf "check_size" "check_size" (defArgs s_check_size) (defBody s_check_size) (defScope s_check_size) .none kV_check_size dc_check_size pm_check_size an_check_size cd_check_size ct_check_size), sl_check_size⟩) (c_check_size : PySem.W.codeIn K cd_check_size "check_size" = true) (k_check_size : PySem.W.keepIn K (.ref f_check_size) = true)
    (a_check_operation : PySem.W.nsIn K mainGlobals "check_operation" = some (some (.ref f_check_operation))) (l_check_operation : K.lookup f_check_operation = some ⟨oc_check_operation, od_check_operation, .func (PySem.W.fnOf "check_operation" "check_operation" (defArgs s_check_operation) (defBody s_check_operation) (defScope s_check_operation) .none kV_check_operation dc_check_operation pm_check_operation an_check_operation cd_check_operation ct_check_operation), sl_check_operation⟩) (c_check_operation : PySem.W.codeIn K cd_check_operation "check_operation" = true) (k_check_operation : PySem.W.keepIn K (.ref f_check_operation) = true)
    (a_check_log : PySem.W.nsIn K mainGlobals "check_log" = some (some (.ref f_check_log))) (l_check_log : K.lookup f_check_log = some ⟨oc_check_log, od_check_log, .func (PySem.W.fnOf "check_log" "check_log" (defArgs s_check_log) (defBody s_check_log) (defScope s_check_log) .none kV_check_log dc_check_log pm_check_log an_check_log cd_check_log ct_check_log), sl_check_log⟩) (c_check_log : PySem.W.codeIn K cd_check_log "check_log" = true) (k_check_log : PySem.W.keepIn K (.ref f_check_log) = true)
    (a__is_legal : PySem.W.nsIn K mainGlobals "_is_legal" = some (some (.ref f__is_legal))) (l__is_legal : K.lookup f__is_legal = some ⟨oc__is_legal, od__is_legal, .func (PySem.W.fnOf "_is_legal" "_is_legal" (defArgs s__is_legal) (defBody s__is_legal) (defScope s__is_legal) .none kV__is_legal dc__is_legal pm__is_legal an__is_legal cd__is_legal ct__is_legal), sl__is_legal⟩) (c__is_legal : PySem.W.codeIn K cd__is_legal "_is_legal" = true) (k__is_legal : PySem.W.keepIn K (.ref f__is_legal) = true)
    (a_check_gap : PySem.W.nsIn K mainGlobals "check_gap" = some (some (.ref f_check_gap))) (l_check_gap : K.lookup f_check_gap = some ⟨oc_check_gap, od_check_gap, .func (PySem.W.fnOf "check_gap" "check_gap" (defArgs s_check_gap) (defBody s_check_gap) (defScope s_check_gap) .none kV_check_gap dc_check_gap pm_check_gap an_check_gap cd_check_gap ct_check_gap), sl_check_gap⟩) (c_check_gap : PySem.W.codeIn K cd_check_gap "check_gap" = true) (k_check_gap : PySem.W.keepIn K (.ref f_check_gap) = true)
    (a_left_holds : PySem.W.nsIn K mainGlobals "left_holds" = some (some (.ref f_left_holds))) (l_left_holds : K.lookup f_left_holds = some ⟨oc_left_holds, od_left_holds, .func (PySem.W.fnOf "left_holds" "left_holds" (defArgs s_left_holds) (defBody s_left_holds) (defScope s_left_holds) .none kV_left_holds dc_left_holds pm_left_holds an_left_holds cd_left_holds ct_left_holds), sl_left_holds⟩) (c_left_holds : PySem.W.codeIn K cd_left_holds "left_holds" = true) (k_left_holds : PySem.W.keepIn K (.ref f_left_holds) = true)
    (a_right_holds : PySem.W.nsIn K mainGlobals "right_holds" = some (some (.ref f_right_holds))) (l_right_holds : K.lookup f_right_holds = some ⟨oc_right_holds, od_right_holds, .func (PySem.W.fnOf "right_holds" "right_holds" (defArgs s_right_holds) (defBody s_right_holds) (defScope s_right_holds) .none kV_right_holds dc_right_holds pm_right_holds an_right_holds cd_right_holds ct_right_holds), sl_right_holds⟩) (c_right_holds : PySem.W.codeIn K cd_right_holds "right_holds" = true) (k_right_holds : PySem.W.keepIn K (.ref f_right_holds) = true)
    (a_gap_state : PySem.W.nsIn K mainGlobals "gap_state" = some (some (.ref f_gap_state))) (l_gap_state : K.lookup f_gap_state = some ⟨oc_gap_state, od_gap_state, .func (PySem.W.fnOf "gap_state" "gap_state" (defArgs s_gap_state) (defBody s_gap_state) (defScope s_gap_state) .none kV_gap_state dc_gap_state pm_gap_state an_gap_state cd_gap_state ct_gap_state), sl_gap_state⟩) (c_gap_state : PySem.W.codeIn K cd_gap_state "gap_state" = true) (k_gap_state : PySem.W.keepIn K (.ref f_gap_state) = true)
    (a_gap_states : PySem.W.nsIn K mainGlobals "gap_states" = some (some (.ref f_gap_states))) (l_gap_states : K.lookup f_gap_states = some ⟨oc_gap_states, od_gap_states, .func (PySem.W.fnOf "gap_states" "gap_states" (defArgs s_gap_states) (defBody s_gap_states) (defScope s_gap_states) .none kV_gap_states dc_gap_states pm_gap_states an_gap_states cd_gap_states ct_gap_states), sl_gap_states⟩) (c_gap_states : PySem.W.codeIn K cd_gap_states "gap_states" = true) (k_gap_states : PySem.W.keepIn K (.ref f_gap_states) = true)
    (a_replay : PySem.W.nsIn K mainGlobals "replay" = some (some (.ref f_replay))) (l_replay : K.lookup f_replay = some ⟨oc_replay, od_replay, .func (PySem.W.fnOf "replay" "replay" (defArgs s_replay) (defBody s_replay) (defScope s_replay) .none kV_replay dc_replay pm_replay an_replay cd_replay ct_replay), sl_replay⟩) (c_replay : PySem.W.codeIn K cd_replay "replay" = true) (k_replay : PySem.W.keepIn K (.ref f_replay) = true)
    (a_moments : PySem.W.nsIn K mainGlobals "moments" = some (some (.ref f_moments))) (l_moments : K.lookup f_moments = some ⟨oc_moments, od_moments, .func (PySem.W.fnOf "moments" "moments" (defArgs s_moments) (defBody s_moments) (defScope s_moments) .none kV_moments dc_moments pm_moments an_moments cd_moments ct_moments), sl_moments⟩) (c_moments : PySem.W.codeIn K cd_moments "moments" = true) (k_moments : PySem.W.keepIn K (.ref f_moments) = true)
    (a_writers : PySem.W.nsIn K mainGlobals "writers" = some (some (.ref f_writers))) (l_writers : K.lookup f_writers = some ⟨oc_writers, od_writers, .func (PySem.W.fnOf "writers" "writers" (defArgs s_writers) (defBody s_writers) (defScope s_writers) .none kV_writers dc_writers pm_writers an_writers cd_writers ct_writers), sl_writers⟩) (c_writers : PySem.W.codeIn K cd_writers "writers" = true) (k_writers : PySem.W.keepIn K (.ref f_writers) = true)
    (a_decided_by : PySem.W.nsIn K mainGlobals "decided_by" = some (some (.ref f_decided_by))) (l_decided_by : K.lookup f_decided_by = some ⟨oc_decided_by, od_decided_by, .func (PySem.W.fnOf "decided_by" "decided_by" (defArgs s_decided_by) (defBody s_decided_by) (defScope s_decided_by) .none kV_decided_by dc_decided_by pm_decided_by an_decided_by cd_decided_by ct_decided_by), sl_decided_by⟩) (c_decided_by : PySem.W.codeIn K cd_decided_by "decided_by" = true) (k_decided_by : PySem.W.keepIn K (.ref f_decided_by) = true)
    (a_verdict : PySem.W.nsIn K mainGlobals "verdict" = some (some (.ref f_verdict))) (l_verdict : K.lookup f_verdict = some ⟨oc_verdict, od_verdict, .func (PySem.W.fnOf "verdict" "verdict" (defArgs s_verdict) (defBody s_verdict) (defScope s_verdict) .none kV_verdict dc_verdict pm_verdict an_verdict cd_verdict ct_verdict), sl_verdict⟩) (c_verdict : PySem.W.codeIn K cd_verdict "verdict" = true) (k_verdict : PySem.W.keepIn K (.ref f_verdict) = true)
    (a_gap_certificate : PySem.W.nsIn K mainGlobals "gap_certificate" = some (some (.ref f_gap_certificate))) (l_gap_certificate : K.lookup f_gap_certificate = some ⟨oc_gap_certificate, od_gap_certificate, .func (PySem.W.fnOf "gap_certificate" "gap_certificate" (defArgs s_gap_certificate) (defBody s_gap_certificate) (defScope s_gap_certificate) .none kV_gap_certificate dc_gap_certificate pm_gap_certificate an_gap_certificate cd_gap_certificate ct_gap_certificate), sl_gap_certificate⟩) (c_gap_certificate : PySem.W.codeIn K cd_gap_certificate "gap_certificate" = true) (k_gap_certificate : PySem.W.keepIn K (.ref f_gap_certificate) = true)
    (a__is_integer : PySem.W.nsIn K mainGlobals "_is_integer" = some (some (.ref f__is_integer))) (l__is_integer : K.lookup f__is_integer = some ⟨oc__is_integer, od__is_integer, .func (PySem.W.fnOf "_is_integer" "_is_integer" (defArgs s__is_integer) (defBody s__is_integer) (defScope s__is_integer) .none kV__is_integer dc__is_integer pm__is_integer an__is_integer cd__is_integer ct__is_integer), sl__is_integer⟩) (c__is_integer : PySem.W.codeIn K cd__is_integer "_is_integer" = true) (k__is_integer : PySem.W.keepIn K (.ref f__is_integer) = true)
    (a_is_gap_certificate : PySem.W.nsIn K mainGlobals "is_gap_certificate" = some (some (.ref f_is_gap_certificate))) (l_is_gap_certificate : K.lookup f_is_gap_certificate = some ⟨oc_is_gap_certificate, od_is_gap_certificate, .func (PySem.W.fnOf "is_gap_certificate" "is_gap_certificate" (defArgs s_is_gap_certificate) (defBody s_is_gap_certificate) (defScope s_is_gap_certificate) .none kV_is_gap_certificate dc_is_gap_certificate pm_is_gap_certificate an_is_gap_certificate cd_is_gap_certificate ct_is_gap_certificate), sl_is_gap_certificate⟩) (c_is_gap_certificate : PySem.W.codeIn K cd_is_gap_certificate "is_gap_certificate" = true) (k_is_gap_certificate : PySem.W.keepIn K (.ref f_is_gap_certificate) = true)
    (a__law_bag : PySem.W.nsIn K mainGlobals "_law_bag" = some (some (.ref f__law_bag))) (l__law_bag : K.lookup f__law_bag = some ⟨oc__law_bag, od__law_bag, .func (PySem.W.fnOf "_law_bag" "_law_bag" (defArgs s__law_bag) (defBody s__law_bag) (defScope s__law_bag) .none kV__law_bag dc__law_bag pm__law_bag an__law_bag cd__law_bag ct__law_bag), sl__law_bag⟩) (c__law_bag : PySem.W.codeIn K cd__law_bag "_law_bag" = true) (k__law_bag : PySem.W.keepIn K (.ref f__law_bag) = true)
    (a__law_draw : PySem.W.nsIn K mainGlobals "_law_draw" = some (some (.ref f__law_draw))) (l__law_draw : K.lookup f__law_draw = some ⟨oc__law_draw, od__law_draw, .func (PySem.W.fnOf "_law_draw" "_law_draw" (defArgs s__law_draw) (defBody s__law_draw) (defScope s__law_draw) .none kV__law_draw dc__law_draw pm__law_draw an__law_draw cd__law_draw ct__law_draw), sl__law_draw⟩) (c__law_draw : PySem.W.codeIn K cd__law_draw "_law_draw" = true) (k__law_draw : PySem.W.keepIn K (.ref f__law_draw) = true)
    (a__law_size : PySem.W.nsIn K mainGlobals "_law_size" = some (some (.ref f__law_size))) (l__law_size : K.lookup f__law_size = some ⟨oc__law_size, od__law_size, .func (PySem.W.fnOf "_law_size" "_law_size" (defArgs s__law_size) (defBody s__law_size) (defScope s__law_size) .none kV__law_size dc__law_size pm__law_size an__law_size cd__law_size ct__law_size), sl__law_size⟩) (c__law_size : PySem.W.codeIn K cd__law_size "_law_size" = true) (k__law_size : PySem.W.keepIn K (.ref f__law_size) = true)
    (a__law_whole : PySem.W.nsIn K mainGlobals "_law_whole" = some (some (.ref f__law_whole))) (l__law_whole : K.lookup f__law_whole = some ⟨oc__law_whole, od__law_whole, .func (PySem.W.fnOf "_law_whole" "_law_whole" (defArgs s__law_whole) (defBody s__law_whole) (defScope s__law_whole) .none kV__law_whole dc__law_whole pm__law_whole an__law_whole cd__law_whole ct__law_whole), sl__law_whole⟩) (c__law_whole : PySem.W.codeIn K cd__law_whole "_law_whole" = true) (k__law_whole : PySem.W.keepIn K (.ref f__law_whole) = true)
    (a__law_planted : PySem.W.nsIn K mainGlobals "_law_planted" = some (some (.ref f__law_planted))) (l__law_planted : K.lookup f__law_planted = some ⟨oc__law_planted, od__law_planted, .func (PySem.W.fnOf "_law_planted" "_law_planted" (defArgs s__law_planted) (defBody s__law_planted) (defScope s__law_planted) .none kV__law_planted dc__law_planted pm__law_planted an__law_planted cd__law_planted ct__law_planted), sl__law_planted⟩) (c__law_planted : PySem.W.codeIn K cd__law_planted "_law_planted" = true) (k__law_planted : PySem.W.keepIn K (.ref f__law_planted) = true)
    (a__law_log : PySem.W.nsIn K mainGlobals "_law_log" = some (some (.ref f__law_log))) (l__law_log : K.lookup f__law_log = some ⟨oc__law_log, od__law_log, .func (PySem.W.fnOf "_law_log" "_law_log" (defArgs s__law_log) (defBody s__law_log) (defScope s__law_log) .none kV__law_log dc__law_log pm__law_log an__law_log cd__law_log ct__law_log), sl__law_log⟩) (c__law_log : PySem.W.codeIn K cd__law_log "_law_log" = true) (k__law_log : PySem.W.keepIn K (.ref f__law_log) = true)
    (a__law_state : PySem.W.nsIn K mainGlobals "_law_state" = some (some (.ref f__law_state))) (l__law_state : K.lookup f__law_state = some ⟨oc__law_state, od__law_state, .func (PySem.W.fnOf "_law_state" "_law_state" (defArgs s__law_state) (defBody s__law_state) (defScope s__law_state) .none kV__law_state dc__law_state pm__law_state an__law_state cd__law_state ct__law_state), sl__law_state⟩) (c__law_state : PySem.W.codeIn K cd__law_state "_law_state" = true) (k__law_state : PySem.W.keepIn K (.ref f__law_state) = true)
    (a__law_step : PySem.W.nsIn K mainGlobals "_law_step" = some (some (.ref f__law_step))) (l__law_step : K.lookup f__law_step = some ⟨oc__law_step, od__law_step, .func (PySem.W.fnOf "_law_step" "_law_step" (defArgs s__law_step) (defBody s__law_step) (defScope s__law_step) .none kV__law_step dc__law_step pm__law_step an__law_step cd__law_step ct__law_step), sl__law_step⟩) (c__law_step : PySem.W.codeIn K cd__law_step "_law_step" = true) (k__law_step : PySem.W.keepIn K (.ref f__law_step) = true)
    (a__law_whole_number : PySem.W.nsIn K mainGlobals "_law_whole_number" = some (some (.ref f__law_whole_number))) (l__law_whole_number : K.lookup f__law_whole_number = some ⟨oc__law_whole_number, od__law_whole_number, .func (PySem.W.fnOf "_law_whole_number" "_law_whole_number" (defArgs s__law_whole_number) (defBody s__law_whole_number) (defScope s__law_whole_number) .none kV__law_whole_number dc__law_whole_number pm__law_whole_number an__law_whole_number cd__law_whole_number ct__law_whole_number), sl__law_whole_number⟩) (c__law_whole_number : PySem.W.codeIn K cd__law_whole_number "_law_whole_number" = true) (k__law_whole_number : PySem.W.keepIn K (.ref f__law_whole_number) = true)
    (a__law_numbers : PySem.W.nsIn K mainGlobals "_law_numbers" = some (some (.ref f__law_numbers))) (l__law_numbers : K.lookup f__law_numbers = some ⟨oc__law_numbers, od__law_numbers, .func (PySem.W.fnOf "_law_numbers" "_law_numbers" (defArgs s__law_numbers) (defBody s__law_numbers) (defScope s__law_numbers) .none kV__law_numbers dc__law_numbers pm__law_numbers an__law_numbers cd__law_numbers ct__law_numbers), sl__law_numbers⟩) (c__law_numbers : PySem.W.codeIn K cd__law_numbers "_law_numbers" = true) (k__law_numbers : PySem.W.keepIn K (.ref f__law_numbers) = true)
    (a__law_number_or_none : PySem.W.nsIn K mainGlobals "_law_number_or_none" = some (some (.ref f__law_number_or_none))) (l__law_number_or_none : K.lookup f__law_number_or_none = some ⟨oc__law_number_or_none, od__law_number_or_none, .func (PySem.W.fnOf "_law_number_or_none" "_law_number_or_none" (defArgs s__law_number_or_none) (defBody s__law_number_or_none) (defScope s__law_number_or_none) .none kV__law_number_or_none dc__law_number_or_none pm__law_number_or_none an__law_number_or_none cd__law_number_or_none ct__law_number_or_none), sl__law_number_or_none⟩) (c__law_number_or_none : PySem.W.codeIn K cd__law_number_or_none "_law_number_or_none" = true) (k__law_number_or_none : PySem.W.keepIn K (.ref f__law_number_or_none) = true)
    (a__law_book : PySem.W.nsIn K mainGlobals "_law_book" = some (some (.ref f__law_book))) (l__law_book : K.lookup f__law_book = some ⟨oc__law_book, od__law_book, .func (PySem.W.fnOf "_law_book" "_law_book" (defArgs s__law_book) (defBody s__law_book) (defScope s__law_book) .none kV__law_book dc__law_book pm__law_book an__law_book cd__law_book ct__law_book), sl__law_book⟩) (c__law_book : PySem.W.codeIn K cd__law_book "_law_book" = true) (k__law_book : PySem.W.keepIn K (.ref f__law_book) = true)
    (a__law_bears : PySem.W.nsIn K mainGlobals "_law_bears" = some (some (.ref f__law_bears))) (l__law_bears : K.lookup f__law_bears = some ⟨oc__law_bears, od__law_bears, .func (PySem.W.fnOf "_law_bears" "_law_bears" (defArgs s__law_bears) (defBody s__law_bears) (defScope s__law_bears) .none kV__law_bears dc__law_bears pm__law_bears an__law_bears cd__law_bears ct__law_bears), sl__law_bears⟩) (c__law_bears : PySem.W.codeIn K cd__law_bears "_law_bears" = true) (k__law_bears : PySem.W.keepIn K (.ref f__law_bears) = true)
    (a__law_verdict_fits : PySem.W.nsIn K mainGlobals "_law_verdict_fits" = some (some (.ref f__law_verdict_fits))) (l__law_verdict_fits : K.lookup f__law_verdict_fits = some ⟨oc__law_verdict_fits, od__law_verdict_fits, .func (PySem.W.fnOf "_law_verdict_fits" "_law_verdict_fits" (defArgs s__law_verdict_fits) (defBody s__law_verdict_fits) (defScope s__law_verdict_fits) .none kV__law_verdict_fits dc__law_verdict_fits pm__law_verdict_fits an__law_verdict_fits cd__law_verdict_fits ct__law_verdict_fits), sl__law_verdict_fits⟩) (c__law_verdict_fits : PySem.W.codeIn K cd__law_verdict_fits "_law_verdict_fits" = true) (k__law_verdict_fits : PySem.W.keepIn K (.ref f__law_verdict_fits) = true)
    (a__law_made : PySem.W.nsIn K mainGlobals "_law_made" = some (some (.ref f__law_made))) (l__law_made : K.lookup f__law_made = some ⟨oc__law_made, od__law_made, .func (PySem.W.fnOf "_law_made" "_law_made" (defArgs s__law_made) (defBody s__law_made) (defScope s__law_made) .none kV__law_made dc__law_made pm__law_made an__law_made cd__law_made ct__law_made), sl__law_made⟩) (c__law_made : PySem.W.codeIn K cd__law_made "_law_made" = true) (k__law_made : PySem.W.keepIn K (.ref f__law_made) = true)
    (a__law_is_paper : PySem.W.nsIn K mainGlobals "_law_is_paper" = some (some (.ref f__law_is_paper))) (l__law_is_paper : K.lookup f__law_is_paper = some ⟨oc__law_is_paper, od__law_is_paper, .func (PySem.W.fnOf "_law_is_paper" "_law_is_paper" (defArgs s__law_is_paper) (defBody s__law_is_paper) (defScope s__law_is_paper) .none kV__law_is_paper dc__law_is_paper pm__law_is_paper an__law_is_paper cd__law_is_paper ct__law_is_paper), sl__law_is_paper⟩) (c__law_is_paper : PySem.W.codeIn K cd__law_is_paper "_law_is_paper" = true) (k__law_is_paper : PySem.W.keepIn K (.ref f__law_is_paper) = true)
    (a__law_bents : PySem.W.nsIn K mainGlobals "_law_bents" = some (some (.ref f__law_bents))) (l__law_bents : K.lookup f__law_bents = some ⟨oc__law_bents, od__law_bents, .func (PySem.W.fnOf "_law_bents" "_law_bents" (defArgs s__law_bents) (defBody s__law_bents) (defScope s__law_bents) .none kV__law_bents dc__law_bents pm__law_bents an__law_bents cd__law_bents ct__law_bents), sl__law_bents⟩) (c__law_bents : PySem.W.codeIn K cd__law_bents "_law_bents" = true) (k__law_bents : PySem.W.keepIn K (.ref f__law_bents) = true)
    (a__law_judged : PySem.W.nsIn K mainGlobals "_law_judged" = some (some (.ref f__law_judged))) (l__law_judged : K.lookup f__law_judged = some ⟨oc__law_judged, od__law_judged, .func (PySem.W.fnOf "_law_judged" "_law_judged" (defArgs s__law_judged) (defBody s__law_judged) (defScope s__law_judged) .none kV__law_judged dc__law_judged pm__law_judged an__law_judged cd__law_judged ct__law_judged), sl__law_judged⟩) (c__law_judged : PySem.W.codeIn K cd__law_judged "_law_judged" = true) (k__law_judged : PySem.W.keepIn K (.ref f__law_judged) = true)
    (a__law_papers_fit : PySem.W.nsIn K mainGlobals "_law_papers_fit" = some (some (.ref f__law_papers_fit))) (l__law_papers_fit : K.lookup f__law_papers_fit = some ⟨oc__law_papers_fit, od__law_papers_fit, .func (PySem.W.fnOf "_law_papers_fit" "_law_papers_fit" (defArgs s__law_papers_fit) (defBody s__law_papers_fit) (defScope s__law_papers_fit) .none kV__law_papers_fit dc__law_papers_fit pm__law_papers_fit an__law_papers_fit cd__law_papers_fit ct__law_papers_fit), sl__law_papers_fit⟩) (c__law_papers_fit : PySem.W.codeIn K cd__law_papers_fit "_law_papers_fit" = true) (k__law_papers_fit : PySem.W.keepIn K (.ref f__law_papers_fit) = true)
    (a__law_agrees : PySem.W.nsIn K mainGlobals "_law_agrees" = some (some (.ref f__law_agrees))) (l__law_agrees : K.lookup f__law_agrees = some ⟨oc__law_agrees, od__law_agrees, .func (PySem.W.fnOf "_law_agrees" "_law_agrees" (defArgs s__law_agrees) (defBody s__law_agrees) (defScope s__law_agrees) .none kV__law_agrees dc__law_agrees pm__law_agrees an__law_agrees cd__law_agrees ct__law_agrees), sl__law_agrees⟩) (c__law_agrees : PySem.W.codeIn K cd__law_agrees "_law_agrees" = true) (k__law_agrees : PySem.W.keepIn K (.ref f__law_agrees) = true)
    (a__law_fault : PySem.W.nsIn K mainGlobals "_law_fault" = some (some (.ref f__law_fault))) (l__law_fault : K.lookup f__law_fault = some ⟨oc__law_fault, od__law_fault, .func (PySem.W.fnOf "_law_fault" "_law_fault" (defArgs s__law_fault) (defBody s__law_fault) (defScope s__law_fault) .none kV__law_fault dc__law_fault pm__law_fault an__law_fault cd__law_fault ct__law_fault), sl__law_fault⟩) (c__law_fault : PySem.W.codeIn K cd__law_fault "_law_fault" = true) (k__law_fault : PySem.W.keepIn K (.ref f__law_fault) = true)
    (a__law_spoilt : PySem.W.nsIn K mainGlobals "_law_spoilt" = some (some (.ref f__law_spoilt))) (l__law_spoilt : K.lookup f__law_spoilt = some ⟨oc__law_spoilt, od__law_spoilt, .func (PySem.W.fnOf "_law_spoilt" "_law_spoilt" (defArgs s__law_spoilt) (defBody s__law_spoilt) (defScope s__law_spoilt) .none kV__law_spoilt dc__law_spoilt pm__law_spoilt an__law_spoilt cd__law_spoilt ct__law_spoilt), sl__law_spoilt⟩) (c__law_spoilt : PySem.W.codeIn K cd__law_spoilt "_law_spoilt" = true) (k__law_spoilt : PySem.W.keepIn K (.ref f__law_spoilt) = true)
    (a__law_trials : PySem.W.nsIn K mainGlobals "_law_trials" = some (some (.ref f__law_trials))) (l__law_trials : K.lookup f__law_trials = some ⟨oc__law_trials, od__law_trials, .func (PySem.W.fnOf "_law_trials" "_law_trials" (defArgs s__law_trials) (defBody s__law_trials) (defScope s__law_trials) .none kV__law_trials dc__law_trials pm__law_trials an__law_trials cd__law_trials ct__law_trials), sl__law_trials⟩) (c__law_trials : PySem.W.codeIn K cd__law_trials "_law_trials" = true) (k__law_trials : PySem.W.keepIn K (.ref f__law_trials) = true)
    (a__law_places : PySem.W.nsIn K mainGlobals "_law_places" = some (some (.ref f__law_places))) (l__law_places : K.lookup f__law_places = some ⟨oc__law_places, od__law_places, .func (PySem.W.fnOf "_law_places" "_law_places" (defArgs s__law_places) (defBody s__law_places) (defScope s__law_places) .none kV__law_places dc__law_places pm__law_places an__law_places cd__law_places ct__law_places), sl__law_places⟩) (c__law_places : PySem.W.codeIn K cd__law_places "_law_places" = true) (k__law_places : PySem.W.keepIn K (.ref f__law_places) = true)
    (a__law_answer : PySem.W.nsIn K mainGlobals "_law_answer" = some (some (.ref f__law_answer))) (l__law_answer : K.lookup f__law_answer = some ⟨oc__law_answer, od__law_answer, .func (PySem.W.fnOf "_law_answer" "_law_answer" (defArgs s__law_answer) (defBody s__law_answer) (defScope s__law_answer) .none kV__law_answer dc__law_answer pm__law_answer an__law_answer cd__law_answer ct__law_answer), sl__law_answer⟩) (c__law_answer : PySem.W.codeIn K cd__law_answer "_law_answer" = true) (k__law_answer : PySem.W.keepIn K (.ref f__law_answer) = true)
    (a__law_refuses : PySem.W.nsIn K mainGlobals "_law_refuses" = some (some (.ref f__law_refuses))) (l__law_refuses : K.lookup f__law_refuses = some ⟨oc__law_refuses, od__law_refuses, .func (PySem.W.fnOf "_law_refuses" "_law_refuses" (defArgs s__law_refuses) (defBody s__law_refuses) (defScope s__law_refuses) .none kV__law_refuses dc__law_refuses pm__law_refuses an__law_refuses cd__law_refuses ct__law_refuses), sl__law_refuses⟩) (c__law_refuses : PySem.W.codeIn K cd__law_refuses "_law_refuses" = true) (k__law_refuses : PySem.W.keepIn K (.ref f__law_refuses) = true)
    (a_law : PySem.W.nsIn K mainGlobals "law" = some (some (.ref f_law))) (l_law : K.lookup f_law = some ⟨oc_law, od_law, .func (PySem.W.fnOf "law" "law" (defArgs s_law) (defBody s_law) (defScope s_law) .none kV_law dc_law pm_law an_law cd_law ct_law), sl_law⟩) (c_law : PySem.W.codeIn K cd_law "law" = true) (k_law : PySem.W.keepIn K (.ref f_law) = true)
    (b_ValueError : PySem.W.nsIn K mainGlobals "ValueError" = some none)
    (b_enumerate : PySem.W.nsIn K mainGlobals "enumerate" = some none)
    (b_range : PySem.W.nsIn K mainGlobals "range" = some none)
    (b_abs : PySem.W.nsIn K mainGlobals "abs" = some none)
    (b_list : PySem.W.nsIn K mainGlobals "list" = some none)
    (b_int : PySem.W.nsIn K mainGlobals "int" = some none)
    (b_len : PySem.W.nsIn K mainGlobals "len" = some none)
    (b_isinstance : PySem.W.nsIn K mainGlobals "isinstance" = some none)
    (b_min : PySem.W.nsIn K mainGlobals "min" = some none)
    (b_bool : PySem.W.nsIn K mainGlobals "bool" = some none)
    (b_str : PySem.W.nsIn K mainGlobals "str" = some none)
    (b_tuple : PySem.W.nsIn K mainGlobals "tuple" = some none)
    (b_super : PySem.W.nsIn K mainGlobals "super" = some none)
    (k_MOST_NODES : PySem.W.nsIn K mainGlobals "MOST_NODES" = some (some (.int 60 t_MOST_NODES)))
    (k_MOST_DIGITS : PySem.W.nsIn K mainGlobals "MOST_DIGITS" = some (some (.int 9 t_MOST_DIGITS)))
    (k_PARTS : PySem.W.nsIn K mainGlobals "PARTS" = some (some (.int 3 t_PARTS)))
    : ∃ fd : FuncData, (∀ (s : Shared) (v : Value), BindsTo s fd ⟨[v], []⟩ [("_law_script", v)]) ∧ ∀ base : Heap, K.In base → base.Ns mainGlobals mg → FnOk P w K mg base (L2N.CX P w) 12 fa fd ["_law_script"] (spL K) := by
  have e := hfa.symm.trans (PySem.W.mg_of X G a_law)
  cases e
  have mm_Links___init__ := fun_mk (st := s_Links___init__) l_Links___init__ c_Links___init__ k_Links___init__
  have mm_Links_left := fun_mk (st := s_Links_left) l_Links_left c_Links_left k_Links_left
  have mm_Links_right := fun_mk (st := s_Links_right) l_Links_right c_Links_right k_Links_right
  have mm_Links_outs := fun_mk (st := s_Links_outs) l_Links_outs c_Links_outs k_Links_outs
  have mm_Links_apply_at := fun_mk (st := s_Links_apply_at) l_Links_apply_at c_Links_apply_at k_Links_apply_at
  have mm_Verdict___init__ := fun_mk (st := s_Verdict___init__) l_Verdict___init__ c_Verdict___init__ k_Verdict___init__
  have m_check_size := nm_mk (st := s_check_size) X G a_check_size l_check_size c_check_size k_check_size
  have m_check_operation := nm_mk (st := s_check_operation) X G a_check_operation l_check_operation c_check_operation k_check_operation
  have m_check_log := nm_mk (st := s_check_log) X G a_check_log l_check_log c_check_log k_check_log
  have m__is_legal := nm_mk (st := s__is_legal) X G a__is_legal l__is_legal c__is_legal k__is_legal
  have m_check_gap := nm_mk (st := s_check_gap) X G a_check_gap l_check_gap c_check_gap k_check_gap
  have m_left_holds := nm_mk (st := s_left_holds) X G a_left_holds l_left_holds c_left_holds k_left_holds
  have m_right_holds := nm_mk (st := s_right_holds) X G a_right_holds l_right_holds c_right_holds k_right_holds
  have m_gap_state := nm_mk (st := s_gap_state) X G a_gap_state l_gap_state c_gap_state k_gap_state
  have m_gap_states := nm_mk (st := s_gap_states) X G a_gap_states l_gap_states c_gap_states k_gap_states
  have m_replay := nm_mk (st := s_replay) X G a_replay l_replay c_replay k_replay
  have m_moments := nm_mk (st := s_moments) X G a_moments l_moments c_moments k_moments
  have m_writers := nm_mk (st := s_writers) X G a_writers l_writers c_writers k_writers
  have m_decided_by := nm_mk (st := s_decided_by) X G a_decided_by l_decided_by c_decided_by k_decided_by
  have m_verdict := nm_mk (st := s_verdict) X G a_verdict l_verdict c_verdict k_verdict
  have m_gap_certificate := nm_mk (st := s_gap_certificate) X G a_gap_certificate l_gap_certificate c_gap_certificate k_gap_certificate
  have m__is_integer := nm_mk (st := s__is_integer) X G a__is_integer l__is_integer c__is_integer k__is_integer
  have m_is_gap_certificate := nm_mk (st := s_is_gap_certificate) X G a_is_gap_certificate l_is_gap_certificate c_is_gap_certificate k_is_gap_certificate
  have m__law_bag := nm_mk (st := s__law_bag) X G a__law_bag l__law_bag c__law_bag k__law_bag
  have m__law_draw := nm_mk (st := s__law_draw) X G a__law_draw l__law_draw c__law_draw k__law_draw
  have m__law_size := nm_mk (st := s__law_size) X G a__law_size l__law_size c__law_size k__law_size
  have m__law_whole := nm_mk (st := s__law_whole) X G a__law_whole l__law_whole c__law_whole k__law_whole
  have m__law_planted := nm_mk (st := s__law_planted) X G a__law_planted l__law_planted c__law_planted k__law_planted
  have m__law_log := nm_mk (st := s__law_log) X G a__law_log l__law_log c__law_log k__law_log
  have m__law_state := nm_mk (st := s__law_state) X G a__law_state l__law_state c__law_state k__law_state
  have m__law_step := nm_mk (st := s__law_step) X G a__law_step l__law_step c__law_step k__law_step
  have m__law_whole_number := nm_mk (st := s__law_whole_number) X G a__law_whole_number l__law_whole_number c__law_whole_number k__law_whole_number
  have m__law_numbers := nm_mk (st := s__law_numbers) X G a__law_numbers l__law_numbers c__law_numbers k__law_numbers
  have m__law_number_or_none := nm_mk (st := s__law_number_or_none) X G a__law_number_or_none l__law_number_or_none c__law_number_or_none k__law_number_or_none
  have m__law_book := nm_mk (st := s__law_book) X G a__law_book l__law_book c__law_book k__law_book
  have m__law_bears := nm_mk (st := s__law_bears) X G a__law_bears l__law_bears c__law_bears k__law_bears
  have m__law_verdict_fits := nm_mk (st := s__law_verdict_fits) X G a__law_verdict_fits l__law_verdict_fits c__law_verdict_fits k__law_verdict_fits
  have m__law_made := nm_mk (st := s__law_made) X G a__law_made l__law_made c__law_made k__law_made
  have m__law_is_paper := nm_mk (st := s__law_is_paper) X G a__law_is_paper l__law_is_paper c__law_is_paper k__law_is_paper
  have m__law_bents := nm_mk (st := s__law_bents) X G a__law_bents l__law_bents c__law_bents k__law_bents
  have m__law_judged := nm_mk (st := s__law_judged) X G a__law_judged l__law_judged c__law_judged k__law_judged
  have m__law_papers_fit := nm_mk (st := s__law_papers_fit) X G a__law_papers_fit l__law_papers_fit c__law_papers_fit k__law_papers_fit
  have m__law_agrees := nm_mk (st := s__law_agrees) X G a__law_agrees l__law_agrees c__law_agrees k__law_agrees
  have m__law_fault := nm_mk (st := s__law_fault) X G a__law_fault l__law_fault c__law_fault k__law_fault
  have m__law_spoilt := nm_mk (st := s__law_spoilt) X G a__law_spoilt l__law_spoilt c__law_spoilt k__law_spoilt
  have m__law_trials := nm_mk (st := s__law_trials) X G a__law_trials l__law_trials c__law_trials k__law_trials
  have m__law_places := nm_mk (st := s__law_places) X G a__law_places l__law_places c__law_places k__law_places
  have m__law_answer := nm_mk (st := s__law_answer) X G a__law_answer l__law_answer c__law_answer k__law_answer
  have m__law_refuses := nm_mk (st := s__law_refuses) X G a__law_refuses l__law_refuses c__law_refuses k__law_refuses
  have m_law := nm_mk (st := s_law) X G a_law l_law c_law k_law
  have T : Txt P K mg ⟨f_check_size, f_check_operation, f_check_log, f__is_legal, f_check_gap, f_left_holds, f_right_holds, f_gap_state, f_gap_states, f_replay, f_moments, f_writers, f_decided_by, f_verdict, f_gap_certificate, f__is_integer, f_is_gap_certificate, f__law_bag, f__law_draw, f__law_size, f__law_whole, f__law_planted, f__law_log, f__law_state, f__law_step, f__law_whole_number, f__law_numbers, f__law_number_or_none, f__law_book, f__law_bears, f__law_verdict_fits, f__law_made, f__law_is_paper, f__law_bents, f__law_judged, f__law_papers_fit, f__law_agrees, f__law_fault, f__law_spoilt, f__law_trials, f__law_places, f__law_answer, f__law_refuses, fa, f_Links___init__, f_Links_left, f_Links_right, f_Links_outs, f_Links_apply_at, f_Verdict___init__, Links, Verdict, LinkError, LogError, BadOperation, i_BadOperation, Illegal, i_Illegal, BadSize, i_BadSize, BadNode, i_BadNode, BadGap, i_BadGap, BadDump, i_BadDump⟩ :=
    { n_check_size := m_check_size.1,
      F_check_size := ⟨_, m_check_size.2, Fun.binds (ps := ["size"]) m_check_size.2 fun _ _ _ _ _ _ us hl => match us, hl with | [_], _ => rfl⟩,
      n_check_operation := m_check_operation.1,
      F_check_operation := ⟨_, m_check_operation.2, Fun.binds (ps := ["size", "operation", "index"]) m_check_operation.2 fun _ _ _ _ _ _ us hl => match us, hl with | [_, _, _], _ => rfl⟩,
      n_check_log := m_check_log.1,
      F_check_log := ⟨_, m_check_log.2, Fun.binds (ps := ["size", "log"]) m_check_log.2 fun _ _ _ _ _ _ us hl => match us, hl with | [_, _], _ => rfl⟩,
      n__is_legal := m__is_legal.1,
      F__is_legal := ⟨_, m__is_legal.2, Fun.binds (ps := ["flags", "operation"]) m__is_legal.2 fun _ _ _ _ _ _ us hl => match us, hl with | [_, _], _ => rfl⟩,
      n_check_gap := m_check_gap.1,
      F_check_gap := ⟨_, m_check_gap.2, Fun.binds (ps := ["size", "gap"]) m_check_gap.2 fun _ _ _ _ _ _ us hl => match us, hl with | [_, _], _ => rfl⟩,
      n_left_holds := m_left_holds.1,
      F_left_holds := ⟨_, m_left_holds.2, Fun.binds (ps := ["links", "gap"]) m_left_holds.2 fun _ _ _ _ _ _ us hl => match us, hl with | [_, _], _ => rfl⟩,
      n_right_holds := m_right_holds.1,
      F_right_holds := ⟨_, m_right_holds.2, Fun.binds (ps := ["links", "gap"]) m_right_holds.2 fun _ _ _ _ _ _ us hl => match us, hl with | [_, _], _ => rfl⟩,
      n_gap_state := m_gap_state.1,
      F_gap_state := ⟨_, m_gap_state.2, Fun.binds (ps := ["links", "gap"]) m_gap_state.2 fun _ _ _ _ _ _ us hl => match us, hl with | [_, _], _ => rfl⟩,
      n_gap_states := m_gap_states.1,
      F_gap_states := ⟨_, m_gap_states.2, Fun.binds (ps := ["links"]) m_gap_states.2 fun _ _ _ _ _ _ us hl => match us, hl with | [_], _ => rfl⟩,
      n_replay := m_replay.1,
      F_replay := ⟨_, m_replay.2, Fun.binds (ps := ["size", "log"]) m_replay.2 fun _ _ _ _ _ _ us hl => match us, hl with | [_, _], _ => rfl⟩,
      n_moments := m_moments.1,
      F_moments := ⟨_, m_moments.2, Fun.binds (ps := ["size", "log"]) m_moments.2 fun _ _ _ _ _ _ us hl => match us, hl with | [_, _], _ => rfl⟩,
      n_writers := m_writers.1,
      F_writers := ⟨_, m_writers.2, Fun.binds (ps := ["size", "log"]) m_writers.2 fun _ _ _ _ _ _ us hl => match us, hl with | [_, _], _ => rfl⟩,
      n_decided_by := m_decided_by.1,
      F_decided_by := ⟨_, m_decided_by.2, Fun.binds (ps := ["size", "log", "gap"]) m_decided_by.2 fun _ _ _ _ _ _ us hl => match us, hl with | [_, _, _], _ => rfl⟩,
      n_verdict := m_verdict.1,
      F_verdict := ⟨_, m_verdict.2, Fun.binds (ps := ["size", "log"]) m_verdict.2 fun _ _ _ _ _ _ us hl => match us, hl with | [_, _], _ => rfl⟩,
      n_gap_certificate := m_gap_certificate.1,
      F_gap_certificate := ⟨_, m_gap_certificate.2, Fun.binds (ps := ["size", "log", "gap"]) m_gap_certificate.2 fun _ _ _ _ _ _ us hl => match us, hl with | [_, _, _], _ => rfl⟩,
      n__is_integer := m__is_integer.1,
      F__is_integer := ⟨_, m__is_integer.2, Fun.binds (ps := ["value"]) m__is_integer.2 fun _ _ _ _ _ _ us hl => match us, hl with | [_], _ => rfl⟩,
      n_is_gap_certificate := m_is_gap_certificate.1,
      F_is_gap_certificate := ⟨_, m_is_gap_certificate.2, Fun.binds (ps := ["size", "log", "gap", "value"]) m_is_gap_certificate.2 fun _ _ _ _ _ _ us hl => match us, hl with | [_, _, _, _], _ => rfl⟩,
      n__law_bag := m__law_bag.1,
      F__law_bag := ⟨_, m__law_bag.2, Fun.binds (ps := ["_law_script", "_law_lane"]) m__law_bag.2 fun _ _ _ _ _ _ us hl => match us, hl with | [_, _], _ => rfl⟩,
      n__law_draw := m__law_draw.1,
      F__law_draw := ⟨_, m__law_draw.2, Fun.binds (ps := ["_law_bag_here", "_law_many"]) m__law_draw.2 fun _ _ _ _ _ _ us hl => match us, hl with | [_, _], _ => rfl⟩,
      n__law_size := m__law_size.1,
      F__law_size := ⟨_, m__law_size.2, Fun.binds (ps := ["_law_bag_here"]) m__law_size.2 fun _ _ _ _ _ _ us hl => match us, hl with | [_], _ => rfl⟩,
      n__law_whole := m__law_whole.1,
      F__law_whole := ⟨_, m__law_whole.2, Fun.binds (ps := ["_law_size_here"]) m__law_whole.2 fun _ _ _ _ _ _ us hl => match us, hl with | [_], _ => rfl⟩,
      n__law_planted := m__law_planted.1,
      F__law_planted := ⟨_, m__law_planted.2, Fun.binds (ps := ["_law_bag_here", "_law_size_here"]) m__law_planted.2 fun _ _ _ _ _ _ us hl => match us, hl with | [_, _], _ => rfl⟩,
      n__law_log := m__law_log.1,
      F__law_log := ⟨_, m__law_log.2, Fun.binds (ps := ["_law_bag_here", "_law_size_here"]) m__law_log.2 fun _ _ _ _ _ _ us hl => match us, hl with | [_, _], _ => rfl⟩,
      n__law_state := m__law_state.1,
      F__law_state := ⟨_, m__law_state.2, Fun.binds (ps := ["_law_world", "_law_place"]) m__law_state.2 fun _ _ _ _ _ _ us hl => match us, hl with | [_, _], _ => rfl⟩,
      n__law_step := m__law_step.1,
      F__law_step := ⟨_, m__law_step.2, Fun.binds (ps := ["_law_world", "_law_deed"]) m__law_step.2 fun _ _ _ _ _ _ us hl => match us, hl with | [_, _], _ => rfl⟩,
      n__law_whole_number := m__law_whole_number.1,
      F__law_whole_number := ⟨_, m__law_whole_number.2, Fun.binds (ps := ["_law_told"]) m__law_whole_number.2 fun _ _ _ _ _ _ us hl => match us, hl with | [_], _ => rfl⟩,
      n__law_numbers := m__law_numbers.1,
      F__law_numbers := ⟨_, m__law_numbers.2, Fun.binds (ps := ["_law_told", "_law_due"]) m__law_numbers.2 fun _ _ _ _ _ _ us hl => match us, hl with | [_, _], _ => rfl⟩,
      n__law_number_or_none := m__law_number_or_none.1,
      F__law_number_or_none := ⟨_, m__law_number_or_none.2, Fun.binds (ps := ["_law_told", "_law_due"]) m__law_number_or_none.2 fun _ _ _ _ _ _ us hl => match us, hl with | [_, _], _ => rfl⟩,
      n__law_book := m__law_book.1,
      F__law_book := ⟨_, m__law_book.2, Fun.binds (ps := ["_law_size_here", "_law_deeds"]) m__law_book.2 fun _ _ _ _ _ _ us hl => match us, hl with | [_, _], _ => rfl⟩,
      n__law_bears := m__law_bears.1,
      F__law_bears := ⟨_, m__law_bears.2, Fun.binds (ps := ["_law_told", "_law_gone", "_law_place", "_law_k"]) m__law_bears.2 fun _ _ _ _ _ _ us hl => match us, hl with | [_, _, _, _], _ => rfl⟩,
      n__law_verdict_fits := m__law_verdict_fits.1,
      F__law_verdict_fits := ⟨_, m__law_verdict_fits.2, Fun.binds (ps := ["_law_told", "_law_book_here"]) m__law_verdict_fits.2 fun _ _ _ _ _ _ us hl => match us, hl with | [_, _], _ => rfl⟩,
      n__law_made := m__law_made.1,
      F__law_made := ⟨_, m__law_made.2, Fun.binds (ps := ["_law_gone", "_law_place", "_law_k"]) m__law_made.2 fun _ _ _ _ _ _ us hl => match us, hl with | [_, _, _], _ => rfl⟩,
      n__law_is_paper := m__law_is_paper.1,
      F__law_is_paper := ⟨_, m__law_is_paper.2, Fun.binds (ps := ["_law_told", "_law_due"]) m__law_is_paper.2 fun _ _ _ _ _ _ us hl => match us, hl with | [_, _], _ => rfl⟩,
      n__law_bents := m__law_bents.1,
      F__law_bents := ⟨_, m__law_bents.2, Fun.binds (ps := ["_law_due", "_law_other", "_law_by"]) m__law_bents.2 fun _ _ _ _ _ _ us hl => match us, hl with | [_, _, _], _ => rfl⟩,
      n__law_judged := m__law_judged.1,
      F__law_judged := ⟨_, m__law_judged.2, Fun.binds (ps := ["_law_size_here", "_law_deeds", "_law_place", "_law_value", "_law_due"]) m__law_judged.2 fun _ _ _ _ _ _ us hl => match us, hl with | [_, _, _, _, _], _ => rfl⟩,
      n__law_papers_fit := m__law_papers_fit.1,
      F__law_papers_fit := ⟨_, m__law_papers_fit.2, Fun.binds (ps := ["_law_size_here", "_law_deeds", "_law_places_here", "_law_papers", "_law_bag_here"]) m__law_papers_fit.2 fun _ _ _ _ _ _ us hl => match us, hl with | [_, _, _, _, _], _ => rfl⟩,
      n__law_agrees := m__law_agrees.1,
      F__law_agrees := ⟨_, m__law_agrees.2, Fun.binds (ps := ["_law_size_here", "_law_deeds", "_law_places_here", "_law_bag_here"]) m__law_agrees.2 fun _ _ _ _ _ _ us hl => match us, hl with | [_, _, _, _], _ => rfl⟩,
      n__law_fault := m__law_fault.1,
      F__law_fault := ⟨_, m__law_fault.2, Fun.binds (ps := ["_law_size_here", "_law_deeds", "_law_place"]) m__law_fault.2 fun _ _ _ _ _ _ us hl => match us, hl with | [_, _, _], _ => rfl⟩,
      n__law_spoilt := m__law_spoilt.1,
      F__law_spoilt := ⟨_, m__law_spoilt.2, Fun.binds (ps := ["_law_bag_here", "_law_size_here", "_law_deeds"]) m__law_spoilt.2 fun _ _ _ _ _ _ us hl => match us, hl with | [_, _, _], _ => rfl⟩,
      n__law_trials := m__law_trials.1,
      F__law_trials := ⟨_, m__law_trials.2, Fun.binds (ps := ["_law_bag_here", "_law_size_here", "_law_deeds"]) m__law_trials.2 fun _ _ _ _ _ _ us hl => match us, hl with | [_, _, _], _ => rfl⟩,
      n__law_places := m__law_places.1,
      F__law_places := ⟨_, m__law_places.2, Fun.binds (ps := ["_law_bag_here", "_law_size_here", "_law_deeds"]) m__law_places.2 fun _ _ _ _ _ _ us hl => match us, hl with | [_, _, _], _ => rfl⟩,
      n__law_answer := m__law_answer.1,
      F__law_answer := ⟨_, m__law_answer.2, Fun.binds (ps := ["_law_way", "_law_size_here", "_law_deeds", "_law_place"]) m__law_answer.2 fun _ _ _ _ _ _ us hl => match us, hl with | [_, _, _, _], _ => rfl⟩,
      n__law_refuses := m__law_refuses.1,
      F__law_refuses := ⟨_, m__law_refuses.2, Fun.binds (ps := ["_law_trials_here"]) m__law_refuses.2 fun _ _ _ _ _ _ us hl => match us, hl with | [_], _ => rfl⟩,
      n_law := m_law.1,
      F_law := ⟨_, m_law.2, Fun.binds (ps := ["_law_script"]) m_law.2 fun _ _ _ _ _ _ us hl => match us, hl with | [_], _ => rfl⟩,
      c_Links := PySem.W.mg_of X G a_Links,
      cl_Links := cl_Links,
      rd_Links := rd_Links,
      mk_Links := ⟨mk1_Links, mk2_Links, mk3_Links, mk4_Links⟩,
      na_Links_size := na_Links_size,
      na_Links__lefts := na_Links__lefts,
      na_Links__rights := na_Links__rights,
      na_Links__flags := na_Links__flags,
      cv_Links_MOST := ⟨_, cv_Links_MOST, ⟨_, rfl⟩⟩,
      c_Verdict := PySem.W.mg_of X G a_Verdict,
      cl_Verdict := cl_Verdict,
      rd_Verdict := rd_Verdict,
      in_Verdict := ⟨cl_Verdict, ia_Verdict, ib_Verdict, ic_Verdict, im_Verdict, by unfold PySem.W.kitOne; rw [if_pos (by simp)]⟩,
      mk_Verdict := ⟨mk1_Verdict, mk2_Verdict, mk3_Verdict, mk4_Verdict⟩,
      na_Verdict_out_nodes := na_Verdict_out_nodes,
      na_Verdict_gap := na_Verdict_gap,
      na_Verdict_index := na_Verdict_index,
      na_Verdict_whole := na_Verdict_whole,
      F_Links___init__ := ⟨_, mm_Links___init__, Fun.binds (ps := ["self", "size"]) mm_Links___init__ fun _ _ _ _ _ _ us hl => match us, hl with | [_, _], _ => rfl⟩,
      me_Links_left := ⟨me1_Links_left, me2_Links_left, k_Links_left⟩,
      F_Links_left := ⟨_, mm_Links_left, Fun.binds (ps := ["self", "node"]) mm_Links_left fun _ _ _ _ _ _ us hl => match us, hl with | [_, _], _ => rfl⟩,
      me_Links_right := ⟨me1_Links_right, me2_Links_right, k_Links_right⟩,
      F_Links_right := ⟨_, mm_Links_right, Fun.binds (ps := ["self", "node"]) mm_Links_right fun _ _ _ _ _ _ us hl => match us, hl with | [_, _], _ => rfl⟩,
      me_Links_outs := ⟨me1_Links_outs, me2_Links_outs, k_Links_outs⟩,
      F_Links_outs := ⟨_, mm_Links_outs, Fun.binds (ps := ["self"]) mm_Links_outs fun _ _ _ _ _ _ us hl => match us, hl with | [_], _ => rfl⟩,
      me_Links_apply_at := ⟨me1_Links_apply_at, me2_Links_apply_at, k_Links_apply_at⟩,
      F_Links_apply_at := ⟨_, mm_Links_apply_at, Fun.binds (ps := ["self", "operation", "index"]) mm_Links_apply_at fun _ _ _ _ _ _ us hl => match us, hl with | [_, _, _], _ => rfl⟩,
      F_Verdict___init__ := ⟨_, mm_Verdict___init__, Fun.binds (ps := ["self", "out_nodes", "gap", "index"]) mm_Verdict___init__ fun _ _ _ _ _ _ us hl => match us, hl with | [_, _, _, _], _ => rfl⟩,
      c_LinkError := PySem.W.mg_of X G a_LinkError,
      c_LogError := PySem.W.mg_of X G a_LogError,
      c_BadOperation := PySem.W.mg_of X G a_BadOperation,
      x_BadOperation := x_BadOperation,
      e_BadOperation := e_BadOperation,
      c_Illegal := PySem.W.mg_of X G a_Illegal,
      x_Illegal := x_Illegal,
      e_Illegal := e_Illegal,
      c_BadSize := PySem.W.mg_of X G a_BadSize,
      x_BadSize := x_BadSize,
      e_BadSize := e_BadSize,
      c_BadNode := PySem.W.mg_of X G a_BadNode,
      x_BadNode := x_BadNode,
      e_BadNode := e_BadNode,
      c_BadGap := PySem.W.mg_of X G a_BadGap,
      x_BadGap := x_BadGap,
      e_BadGap := e_BadGap,
      c_BadDump := PySem.W.mg_of X G a_BadDump,
      x_BadDump := x_BadDump,
      e_BadDump := e_BadDump,
      t_BadOperation_LinkError := kit_mk d_LinkError s_BadOperation_BadOperation s_BadOperation_LinkError,
      t_BadOperation_LogError := kit_mk d_LogError s_BadOperation_BadOperation s_BadOperation_LogError,
      t_BadOperation_BadOperation := kit_mk d_BadOperation s_BadOperation_BadOperation s_BadOperation_BadOperation,
      t_BadOperation_Illegal := kit_mk d_Illegal s_BadOperation_BadOperation s_BadOperation_Illegal,
      t_BadOperation_BadSize := kit_mk d_BadSize s_BadOperation_BadOperation s_BadOperation_BadSize,
      t_BadOperation_BadNode := kit_mk d_BadNode s_BadOperation_BadOperation s_BadOperation_BadNode,
      t_BadOperation_BadGap := kit_mk d_BadGap s_BadOperation_BadOperation s_BadOperation_BadGap,
      t_BadOperation_BadDump := kit_mk d_BadDump s_BadOperation_BadOperation s_BadOperation_BadDump,
      v_BadOperation := kit_val x_BadOperation.vE,
      t_Illegal_LinkError := kit_mk d_LinkError s_Illegal_Illegal s_Illegal_LinkError,
      t_Illegal_LogError := kit_mk d_LogError s_Illegal_Illegal s_Illegal_LogError,
      t_Illegal_BadOperation := kit_mk d_BadOperation s_Illegal_Illegal s_Illegal_BadOperation,
      t_Illegal_Illegal := kit_mk d_Illegal s_Illegal_Illegal s_Illegal_Illegal,
      t_Illegal_BadSize := kit_mk d_BadSize s_Illegal_Illegal s_Illegal_BadSize,
      t_Illegal_BadNode := kit_mk d_BadNode s_Illegal_Illegal s_Illegal_BadNode,
      t_Illegal_BadGap := kit_mk d_BadGap s_Illegal_Illegal s_Illegal_BadGap,
      t_Illegal_BadDump := kit_mk d_BadDump s_Illegal_Illegal s_Illegal_BadDump,
      v_Illegal := kit_val x_Illegal.vE,
      t_BadSize_LinkError := kit_mk d_LinkError s_BadSize_BadSize s_BadSize_LinkError,
      t_BadSize_LogError := kit_mk d_LogError s_BadSize_BadSize s_BadSize_LogError,
      t_BadSize_BadOperation := kit_mk d_BadOperation s_BadSize_BadSize s_BadSize_BadOperation,
      t_BadSize_Illegal := kit_mk d_Illegal s_BadSize_BadSize s_BadSize_Illegal,
      t_BadSize_BadSize := kit_mk d_BadSize s_BadSize_BadSize s_BadSize_BadSize,
      t_BadSize_BadNode := kit_mk d_BadNode s_BadSize_BadSize s_BadSize_BadNode,
      t_BadSize_BadGap := kit_mk d_BadGap s_BadSize_BadSize s_BadSize_BadGap,
      t_BadSize_BadDump := kit_mk d_BadDump s_BadSize_BadSize s_BadSize_BadDump,
      v_BadSize := kit_val x_BadSize.vE,
      t_BadNode_LinkError := kit_mk d_LinkError s_BadNode_BadNode s_BadNode_LinkError,
      t_BadNode_LogError := kit_mk d_LogError s_BadNode_BadNode s_BadNode_LogError,
      t_BadNode_BadOperation := kit_mk d_BadOperation s_BadNode_BadNode s_BadNode_BadOperation,
      t_BadNode_Illegal := kit_mk d_Illegal s_BadNode_BadNode s_BadNode_Illegal,
      t_BadNode_BadSize := kit_mk d_BadSize s_BadNode_BadNode s_BadNode_BadSize,
      t_BadNode_BadNode := kit_mk d_BadNode s_BadNode_BadNode s_BadNode_BadNode,
      t_BadNode_BadGap := kit_mk d_BadGap s_BadNode_BadNode s_BadNode_BadGap,
      t_BadNode_BadDump := kit_mk d_BadDump s_BadNode_BadNode s_BadNode_BadDump,
      v_BadNode := kit_val x_BadNode.vE,
      t_BadGap_LinkError := kit_mk d_LinkError s_BadGap_BadGap s_BadGap_LinkError,
      t_BadGap_LogError := kit_mk d_LogError s_BadGap_BadGap s_BadGap_LogError,
      t_BadGap_BadOperation := kit_mk d_BadOperation s_BadGap_BadGap s_BadGap_BadOperation,
      t_BadGap_Illegal := kit_mk d_Illegal s_BadGap_BadGap s_BadGap_Illegal,
      t_BadGap_BadSize := kit_mk d_BadSize s_BadGap_BadGap s_BadGap_BadSize,
      t_BadGap_BadNode := kit_mk d_BadNode s_BadGap_BadGap s_BadGap_BadNode,
      t_BadGap_BadGap := kit_mk d_BadGap s_BadGap_BadGap s_BadGap_BadGap,
      t_BadGap_BadDump := kit_mk d_BadDump s_BadGap_BadGap s_BadGap_BadDump,
      v_BadGap := kit_val x_BadGap.vE,
      t_BadDump_LinkError := kit_mk d_LinkError s_BadDump_BadDump s_BadDump_LinkError,
      t_BadDump_LogError := kit_mk d_LogError s_BadDump_BadDump s_BadDump_LogError,
      t_BadDump_BadOperation := kit_mk d_BadOperation s_BadDump_BadDump s_BadDump_BadOperation,
      t_BadDump_Illegal := kit_mk d_Illegal s_BadDump_BadDump s_BadDump_Illegal,
      t_BadDump_BadSize := kit_mk d_BadSize s_BadDump_BadDump s_BadDump_BadSize,
      t_BadDump_BadNode := kit_mk d_BadNode s_BadDump_BadDump s_BadDump_BadNode,
      t_BadDump_BadGap := kit_mk d_BadGap s_BadDump_BadDump s_BadDump_BadGap,
      t_BadDump_BadDump := kit_mk d_BadDump s_BadDump_BadDump s_BadDump_BadDump,
      v_BadDump := kit_val x_BadDump.vE,
      b_ValueError := PySem.W.mg_none_of X G b_ValueError,
      b_enumerate := PySem.W.mg_none_of X G b_enumerate,
      b_range := PySem.W.mg_none_of X G b_range,
      b_abs := PySem.W.mg_none_of X G b_abs,
      b_list := PySem.W.mg_none_of X G b_list,
      b_int := PySem.W.mg_none_of X G b_int,
      b_len := PySem.W.mg_none_of X G b_len,
      b_isinstance := PySem.W.mg_none_of X G b_isinstance,
      b_min := PySem.W.mg_none_of X G b_min,
      b_bool := PySem.W.mg_none_of X G b_bool,
      b_str := PySem.W.mg_none_of X G b_str,
      b_tuple := PySem.W.mg_none_of X G b_tuple,
      b_super := PySem.W.mg_none_of X G b_super,
      k_MOST_NODES := ⟨_, PySem.W.mg_of X G k_MOST_NODES⟩,
      k_MOST_DIGITS := ⟨_, PySem.W.mg_of X G k_MOST_DIGITS⟩,
      k_PARTS := ⟨_, PySem.W.mg_of X G k_PARTS⟩ }
  refine ⟨PySem.W.fnOf "law" "law" (defArgs s_law) (defBody s_law) (defScope s_law) .none kV_law dc_law pm_law an_law cd_law ct_law, fun s v => .of_eq rfl, fun base _ _ => ?_⟩
  have G__law_bag := ok__law_bag (w := w) (base := base) T
  have G__law_draw := ok__law_draw (w := w) (base := base) T
  have G__law_size := ok__law_size (w := w) (base := base) T G__law_draw
  have G__law_planted := ok__law_planted (w := w) (base := base) T G__law_draw
  have G__law_log := ok__law_log (w := w) (base := base) T G__law_planted G__law_draw
  have G__law_places := ok__law_places (w := w) (base := base) T G__law_draw
  have G__law_whole := ok__law_whole (w := w) (base := base) T
  have G__law_state := ok__law_state (w := w) (base := base) T
  have G__law_step := ok__law_step (w := w) (base := base) T
  have G__law_book := ok__law_book (w := w) (base := base) T G__law_whole G__law_state G__law_step
  have G__law_whole_number := ok__law_whole_number (w := w) (base := base) T
  have G__law_numbers := ok__law_numbers (w := w) (base := base) T G__law_whole_number
  have G__law_number_or_none := ok__law_number_or_none (w := w) (base := base) T G__law_whole_number
  have G__law_bears := ok__law_bears (w := w) (base := base) T G__law_numbers G__law_number_or_none
  have G__law_verdict_fits := ok__law_verdict_fits (w := w) (base := base) T G__law_bears
  have G_check_size := ok_check_size (w := w) (base := base) T
  have G_Links___init__ := ok_Links___init__ (w := w) (base := base) T G_check_size
  have G_check_operation := ok_check_operation (w := w) (base := base) T
  have G_Links_apply_at := ok_Links_apply_at (w := w) (base := base) T G_check_operation
  have G_replay := ok_replay (w := w) (base := base) T G_Links___init__ G_Links_apply_at
  have G_check_gap := ok_check_gap (w := w) (base := base) T
  have G_Links_right := ok_Links_right (w := w) (base := base) T
  have G_left_holds := ok_left_holds (w := w) (base := base) T G_Links_right
  have G_Links_left := ok_Links_left (w := w) (base := base) T
  have G_right_holds := ok_right_holds (w := w) (base := base) T G_Links_left
  have G_gap_state := ok_gap_state (w := w) (base := base) T G_check_gap G_left_holds G_right_holds
  have G_gap_states := ok_gap_states (w := w) (base := base) T G_gap_state
  have G_Verdict___init__ := ok_Verdict___init__ (w := w) (base := base) T
  have G_Links_outs := ok_Links_outs (w := w) (base := base) T
  have G__is_legal := ok__is_legal (w := w) (base := base) T
  have G_check_log := ok_check_log (w := w) (base := base) T G_check_size G_check_operation G__is_legal
  have G_decided_by := ok_decided_by (w := w) (base := base) T G_check_log G_check_gap G_Links___init__ G_gap_state G_Links_apply_at
  have G_verdict := ok_verdict (w := w) (base := base) T G_replay G_gap_states G_Verdict___init__ G_Links_outs G_decided_by
  have G__law_is_paper := ok__law_is_paper (w := w) (base := base) T G__law_whole_number
  have G_moments := ok_moments (w := w) (base := base) T G_Links___init__ G_Links_apply_at G_Links_left G_Links_right
  have G_writers := ok_writers (w := w) (base := base) T G_moments
  have G_gap_certificate := ok_gap_certificate (w := w) (base := base) T G_writers G_check_gap G_gap_state G_replay
  have G__is_integer := ok__is_integer (w := w) (base := base) T
  have G_is_gap_certificate := ok_is_gap_certificate (w := w) (base := base) T G_gap_certificate G__is_integer
  have G__law_judged := ok__law_judged (w := w) (base := base) T G_is_gap_certificate
  have G__law_bents := ok__law_bents (w := w) (base := base) T
  have G__law_papers_fit := ok__law_papers_fit (w := w) (base := base) T G__law_draw G__law_is_paper G_gap_certificate G__law_judged G__law_bents G_is_gap_certificate
  have G__law_agrees := ok__law_agrees (w := w) (base := base) T G__law_book G__law_verdict_fits G_verdict G__law_papers_fit
  have G__law_made := ok__law_made (w := w) (base := base) T G_Verdict___init__ G__law_bears
  have G__law_fault := ok__law_fault (w := w) (base := base) T
  have H__law_whole_number := hk__law_whole_number (w := w) (base := base) T
  have G__law_answer := ok__law_answer (w := w) (base := base) T G_gap_certificate G_is_gap_certificate G_verdict H__law_whole_number
  have G__law_refuses := ok__law_refuses (w := w) (base := base) T G__law_fault G__law_answer
  have G__law_spoilt := ok__law_spoilt (w := w) (base := base) T G__law_draw
  have G__law_trials := ok__law_trials (w := w) (base := base) T G__law_spoilt G__law_draw
  exact ok_law T m_law.2 G__law_bag G__law_size G__law_log G__law_draw G__law_places G__law_agrees G__law_made G__law_refuses G__law_trials
end Lk
open PySem PySem.W PySem.Calls PyProof.Rows
set_option maxRecDepth 100000 in
set_option maxHeartbeats 0 in
theorem PySem.Challenge.cw_latelink_k10_whole_verdicts_of_logs_holds : PySem.Challenge.rw_latelink_k10_whole_verdicts_of_logs.Holds := by
  w_on; o_law; k_head; (case hw => w_witness2)
  k_fill
  refine L2.walk_of (l := PySem.Challenge.rw_latelink_k10_whole_verdicts_of_logs) (n := 63) (k := 12) (x := "_law_script") (CX := fun w => L2N.CX PySem.Challenge.rw_latelink_k10_whole_verdicts_of_logs.prog w) (sp := fun w => Lk.spL _) rfl (by decide) rfl ⟨rfl, by decide, by decide⟩ (fun w h Y => PySem.W.kIn_of Y) ?F (fun w H a ns hl hO hS => Lk.spL_ok hl hS) Lk.noCX
  case F =>
    intro w mg fa h KX G hmg
    refine' Lk.all_mk KX G hmg ?a_Links ?cl_Links ?rd_Links ?mk1_Links ?mk2_Links ?mk3_Links ?mk4_Links ?na_Links_size ?na_Links__lefts ?na_Links__rights ?na_Links__flags ?cv_Links_MOST ?a_Verdict ?cl_Verdict ?ia_Verdict ?ib_Verdict ?ic_Verdict ?im_Verdict ?rd_Verdict ?mk1_Verdict ?mk2_Verdict ?mk3_Verdict ?mk4_Verdict ?na_Verdict_out_nodes ?na_Verdict_gap ?na_Verdict_index ?na_Verdict_whole ?l_Links___init__ ?c_Links___init__ ?k_Links___init__ ?me1_Links_left ?me2_Links_left ?l_Links_left ?c_Links_left ?k_Links_left ?me1_Links_right ?me2_Links_right ?l_Links_right ?c_Links_right ?k_Links_right ?me1_Links_outs ?me2_Links_outs ?l_Links_outs ?c_Links_outs ?k_Links_outs ?me1_Links_apply_at ?me2_Links_apply_at ?l_Links_apply_at ?c_Links_apply_at ?k_Links_apply_at ?l_Verdict___init__ ?c_Verdict___init__ ?k_Verdict___init__ ?a_LinkError ?a_LogError ?a_BadOperation ?a_Illegal ?a_BadSize ?a_BadNode ?a_BadGap ?a_BadDump ?d_LinkError ?d_LogError ?d_BadOperation ?d_Illegal ?d_BadSize ?d_BadNode ?d_BadGap ?d_BadDump ?x_BadOperation ?e_BadOperation ?s_BadOperation_LinkError ?s_BadOperation_LogError ?s_BadOperation_BadOperation ?s_BadOperation_Illegal ?s_BadOperation_BadSize ?s_BadOperation_BadNode ?s_BadOperation_BadGap ?s_BadOperation_BadDump ?x_Illegal ?e_Illegal ?s_Illegal_LinkError ?s_Illegal_LogError ?s_Illegal_BadOperation ?s_Illegal_Illegal ?s_Illegal_BadSize ?s_Illegal_BadNode ?s_Illegal_BadGap ?s_Illegal_BadDump ?x_BadSize ?e_BadSize ?s_BadSize_LinkError ?s_BadSize_LogError ?s_BadSize_BadOperation ?s_BadSize_Illegal ?s_BadSize_BadSize ?s_BadSize_BadNode ?s_BadSize_BadGap ?s_BadSize_BadDump ?x_BadNode ?e_BadNode ?s_BadNode_LinkError ?s_BadNode_LogError ?s_BadNode_BadOperation ?s_BadNode_Illegal ?s_BadNode_BadSize ?s_BadNode_BadNode ?s_BadNode_BadGap ?s_BadNode_BadDump ?x_BadGap ?e_BadGap ?s_BadGap_LinkError ?s_BadGap_LogError ?s_BadGap_BadOperation ?s_BadGap_Illegal ?s_BadGap_BadSize ?s_BadGap_BadNode ?s_BadGap_BadGap ?s_BadGap_BadDump ?x_BadDump ?e_BadDump ?s_BadDump_LinkError ?s_BadDump_LogError ?s_BadDump_BadOperation ?s_BadDump_Illegal ?s_BadDump_BadSize ?s_BadDump_BadNode ?s_BadDump_BadGap ?s_BadDump_BadDump ?a_check_size ?l_check_size ?c_check_size ?k_check_size ?a_check_operation ?l_check_operation ?c_check_operation ?k_check_operation ?a_check_log ?l_check_log ?c_check_log ?k_check_log ?a__is_legal ?l__is_legal ?c__is_legal ?k__is_legal ?a_check_gap ?l_check_gap ?c_check_gap ?k_check_gap ?a_left_holds ?l_left_holds ?c_left_holds ?k_left_holds ?a_right_holds ?l_right_holds ?c_right_holds ?k_right_holds ?a_gap_state ?l_gap_state ?c_gap_state ?k_gap_state ?a_gap_states ?l_gap_states ?c_gap_states ?k_gap_states ?a_replay ?l_replay ?c_replay ?k_replay ?a_moments ?l_moments ?c_moments ?k_moments ?a_writers ?l_writers ?c_writers ?k_writers ?a_decided_by ?l_decided_by ?c_decided_by ?k_decided_by ?a_verdict ?l_verdict ?c_verdict ?k_verdict ?a_gap_certificate ?l_gap_certificate ?c_gap_certificate ?k_gap_certificate ?a__is_integer ?l__is_integer ?c__is_integer ?k__is_integer ?a_is_gap_certificate ?l_is_gap_certificate ?c_is_gap_certificate ?k_is_gap_certificate ?a__law_bag ?l__law_bag ?c__law_bag ?k__law_bag ?a__law_draw ?l__law_draw ?c__law_draw ?k__law_draw ?a__law_size ?l__law_size ?c__law_size ?k__law_size ?a__law_whole ?l__law_whole ?c__law_whole ?k__law_whole ?a__law_planted ?l__law_planted ?c__law_planted ?k__law_planted ?a__law_log ?l__law_log ?c__law_log ?k__law_log ?a__law_state ?l__law_state ?c__law_state ?k__law_state ?a__law_step ?l__law_step ?c__law_step ?k__law_step ?a__law_whole_number ?l__law_whole_number ?c__law_whole_number ?k__law_whole_number ?a__law_numbers ?l__law_numbers ?c__law_numbers ?k__law_numbers ?a__law_number_or_none ?l__law_number_or_none ?c__law_number_or_none ?k__law_number_or_none ?a__law_book ?l__law_book ?c__law_book ?k__law_book ?a__law_bears ?l__law_bears ?c__law_bears ?k__law_bears ?a__law_verdict_fits ?l__law_verdict_fits ?c__law_verdict_fits ?k__law_verdict_fits ?a__law_made ?l__law_made ?c__law_made ?k__law_made ?a__law_is_paper ?l__law_is_paper ?c__law_is_paper ?k__law_is_paper ?a__law_bents ?l__law_bents ?c__law_bents ?k__law_bents ?a__law_judged ?l__law_judged ?c__law_judged ?k__law_judged ?a__law_papers_fit ?l__law_papers_fit ?c__law_papers_fit ?k__law_papers_fit ?a__law_agrees ?l__law_agrees ?c__law_agrees ?k__law_agrees ?a__law_fault ?l__law_fault ?c__law_fault ?k__law_fault ?a__law_spoilt ?l__law_spoilt ?c__law_spoilt ?k__law_spoilt ?a__law_trials ?l__law_trials ?c__law_trials ?k__law_trials ?a__law_places ?l__law_places ?c__law_places ?k__law_places ?a__law_answer ?l__law_answer ?c__law_answer ?k__law_answer ?a__law_refuses ?l__law_refuses ?c__law_refuses ?k__law_refuses ?a_law ?l_law ?c_law ?k_law ?b_ValueError ?b_enumerate ?b_range ?b_abs ?b_list ?b_int ?b_len ?b_isinstance ?b_min ?b_bool ?b_str ?b_tuple ?b_super ?k_MOST_NODES ?k_MOST_DIGITS ?k_PARTS
    (case a_Links => k_is)
    (case cl_Links => refine ⟨?_, ?_, ?_, ?_⟩ <;> k_is)
    (case rd_Links => refine ⟨?_, ?_⟩ <;> k_is)
    (case mk1_Links => k_is)
    (case mk2_Links => k_is)
    (case mk3_Links => k_is)
    (case mk4_Links => k_is)
    (case na_Links_size => show PySem.W.findIn _ (.ref _) "size" = some none; k_is)
    (case na_Links__lefts => show PySem.W.findIn _ (.ref _) "_lefts" = some none; k_is)
    (case na_Links__rights => show PySem.W.findIn _ (.ref _) "_rights" = some none; k_is)
    (case na_Links__flags => show PySem.W.findIn _ (.ref _) "_flags" = some none; k_is)
    (case cv_Links_MOST => k_is)
    (case a_Verdict => k_is)
    (case cl_Verdict => refine ⟨?_, ?_, ?_, ?_⟩ <;> k_is)
    (case ia_Verdict => k_is)
    (case ib_Verdict => k_is)
    (case ic_Verdict => k_is)
    (case im_Verdict => k_is)
    (case rd_Verdict => refine ⟨?_, ?_⟩ <;> k_is)
    (case mk1_Verdict => k_is)
    (case mk2_Verdict => k_is)
    (case mk3_Verdict => k_is)
    (case mk4_Verdict => k_is)
    (case na_Verdict_out_nodes => show PySem.W.findIn _ (.ref _) "out_nodes" = some none; k_is)
    (case na_Verdict_gap => show PySem.W.findIn _ (.ref _) "gap" = some none; k_is)
    (case na_Verdict_index => show PySem.W.findIn _ (.ref _) "index" = some none; k_is)
    (case na_Verdict_whole => show PySem.W.findIn _ (.ref _) "whole" = some none; k_is)
    (case l_Links___init__ => k_is)
    (case c_Links___init__ => k_is)
    (case k_Links___init__ => k_is)
    (case me1_Links_left => k_is)
    (case me2_Links_left => k_is)
    (case l_Links_left => k_is)
    (case c_Links_left => k_is)
    (case k_Links_left => k_is)
    (case me1_Links_right => k_is)
    (case me2_Links_right => k_is)
    (case l_Links_right => k_is)
    (case c_Links_right => k_is)
    (case k_Links_right => k_is)
    (case me1_Links_outs => k_is)
    (case me2_Links_outs => k_is)
    (case l_Links_outs => k_is)
    (case c_Links_outs => k_is)
    (case k_Links_outs => k_is)
    (case me1_Links_apply_at => k_is)
    (case me2_Links_apply_at => k_is)
    (case l_Links_apply_at => k_is)
    (case c_Links_apply_at => k_is)
    (case k_Links_apply_at => k_is)
    (case l_Verdict___init__ => k_is)
    (case c_Verdict___init__ => k_is)
    (case k_Verdict___init__ => k_is)
    (case a_LinkError => k_is)
    (case a_LogError => k_is)
    (case a_BadOperation => k_is)
    (case a_Illegal => k_is)
    (case a_BadSize => k_is)
    (case a_BadNode => k_is)
    (case a_BadGap => k_is)
    (case a_BadDump => k_is)
    (case d_LinkError => refine ⟨?_, ?_, ?_⟩ <;> k_is)
    (case d_LogError => refine ⟨?_, ?_, ?_⟩ <;> k_is)
    (case d_BadOperation => refine ⟨?_, ?_, ?_⟩ <;> k_is)
    (case d_Illegal => refine ⟨?_, ?_, ?_⟩ <;> k_is)
    (case d_BadSize => refine ⟨?_, ?_, ?_⟩ <;> k_is)
    (case d_BadNode => refine ⟨?_, ?_, ?_⟩ <;> k_is)
    (case d_BadGap => refine ⟨?_, ?_, ?_⟩ <;> k_is)
    (case d_BadDump => refine ⟨?_, ?_, ?_⟩ <;> k_is)
    case x_BadOperation =>
      refine' LkX.exc_mk (st := Lk.s_BadOperation___init__) (qual := "BadOperation.__init__") ?p1 ?p2 ?p3 ?p4 ?p5 ?p6 ?p7 ?p8 ?p9 ?q1 ?q2 ?q3 ?q4 ?q5 ?q6 ?q7 ?q8 ?r1 ?r2 ⟨_, _, _, _, _, _, _, _, _, rfl, rfl, (.cons (.cons .nil))⟩ rfl rfl rfl rfl rfl (by decide +kernel) (by decide +kernel) rfl rfl rfl (fun us hl => match us, hl with | [_, _, _], _ => rfl) (by decide +kernel) (by decide +kernel) (by decide)
      (case p1 => k_is)
      (case p2 => k_is)
      (case p3 => k_is)
      (case p4 => k_is)
      (case p5 => k_is)
      (case p6 => k_is)
      (case p7 => k_is)
      (case p8 => k_is)
      (case p9 => k_is)
      (case q1 => k_is)
      (case q2 => k_is)
      (case q3 => k_is)
      (case q4 => k_is)
      (case q5 => k_is)
      (case q6 => kernel_rfl)
      (case q7 => decide +kernel)
      (case q8 => refine Lk.all_in ?_; refine ⟨?_, ?_⟩; (· k_is); refine ⟨?_, ?_⟩; (· k_is); exact trivial)
      (case r1 => rfl)
      (case r2 => kernel_rfl)
    (case e_BadOperation => refine Lk.exc_ef ?_ ?_ ?_ ?_ ?_ ?_ ?_ ?_ <;> k_is)
    (case s_BadOperation_LinkError => k_is)
    (case s_BadOperation_LogError => k_is)
    (case s_BadOperation_BadOperation => k_is)
    (case s_BadOperation_Illegal => k_is)
    (case s_BadOperation_BadSize => k_is)
    (case s_BadOperation_BadNode => k_is)
    (case s_BadOperation_BadGap => k_is)
    (case s_BadOperation_BadDump => k_is)
    case x_Illegal =>
      refine' LkX.exc_mk (st := Lk.s_Illegal___init__) (qual := "Illegal.__init__") ?p1 ?p2 ?p3 ?p4 ?p5 ?p6 ?p7 ?p8 ?p9 ?q1 ?q2 ?q3 ?q4 ?q5 ?q6 ?q7 ?q8 ?r1 ?r2 ⟨_, _, _, _, _, _, _, _, _, rfl, rfl, (.cons (.cons .nil))⟩ rfl rfl rfl rfl rfl (by decide +kernel) (by decide +kernel) rfl rfl rfl (fun us hl => match us, hl with | [_, _, _], _ => rfl) (by decide +kernel) (by decide +kernel) (by decide)
      (case p1 => k_is)
      (case p2 => k_is)
      (case p3 => k_is)
      (case p4 => k_is)
      (case p5 => k_is)
      (case p6 => k_is)
      (case p7 => k_is)
      (case p8 => k_is)
      (case p9 => k_is)
      (case q1 => k_is)
      (case q2 => k_is)
      (case q3 => k_is)
      (case q4 => k_is)
      (case q5 => k_is)
      (case q6 => kernel_rfl)
      (case q7 => decide +kernel)
      (case q8 => refine Lk.all_in ?_; refine ⟨?_, ?_⟩; (· k_is); refine ⟨?_, ?_⟩; (· k_is); exact trivial)
      (case r1 => rfl)
      (case r2 => kernel_rfl)
    (case e_Illegal => refine Lk.exc_ef ?_ ?_ ?_ ?_ ?_ ?_ ?_ ?_ <;> k_is)
    (case s_Illegal_LinkError => k_is)
    (case s_Illegal_LogError => k_is)
    (case s_Illegal_BadOperation => k_is)
    (case s_Illegal_Illegal => k_is)
    (case s_Illegal_BadSize => k_is)
    (case s_Illegal_BadNode => k_is)
    (case s_Illegal_BadGap => k_is)
    (case s_Illegal_BadDump => k_is)
    case x_BadSize =>
      refine' LkX.exc_mk (st := Lk.s_BadSize___init__) (qual := "BadSize.__init__") ?p1 ?p2 ?p3 ?p4 ?p5 ?p6 ?p7 ?p8 ?p9 ?q1 ?q2 ?q3 ?q4 ?q5 ?q6 ?q7 ?q8 ?r1 ?r2 ⟨_, _, _, _, _, _, _, _, _, rfl, rfl, (.cons .nil)⟩ rfl rfl rfl rfl rfl (by decide +kernel) (by decide +kernel) rfl rfl rfl (fun us hl => match us, hl with | [_, _], _ => rfl) (by decide +kernel) (by decide +kernel) (by decide)
      (case p1 => k_is)
      (case p2 => k_is)
      (case p3 => k_is)
      (case p4 => k_is)
      (case p5 => k_is)
      (case p6 => k_is)
      (case p7 => k_is)
      (case p8 => k_is)
      (case p9 => k_is)
      (case q1 => k_is)
      (case q2 => k_is)
      (case q3 => k_is)
      (case q4 => k_is)
      (case q5 => k_is)
      (case q6 => kernel_rfl)
      (case q7 => decide +kernel)
      (case q8 => refine Lk.all_in ?_; refine ⟨?_, ?_⟩; (· k_is); exact trivial)
      (case r1 => rfl)
      (case r2 => kernel_rfl)
    (case e_BadSize => refine Lk.exc_ef ?_ ?_ ?_ ?_ ?_ ?_ ?_ ?_ <;> k_is)
    (case s_BadSize_LinkError => k_is)
    (case s_BadSize_LogError => k_is)
    (case s_BadSize_BadOperation => k_is)
    (case s_BadSize_Illegal => k_is)
    (case s_BadSize_BadSize => k_is)
    (case s_BadSize_BadNode => k_is)
    (case s_BadSize_BadGap => k_is)
    (case s_BadSize_BadDump => k_is)
    case x_BadNode =>
      refine' LkX.exc_mk (st := Lk.s_BadNode___init__) (qual := "BadNode.__init__") ?p1 ?p2 ?p3 ?p4 ?p5 ?p6 ?p7 ?p8 ?p9 ?q1 ?q2 ?q3 ?q4 ?q5 ?q6 ?q7 ?q8 ?r1 ?r2 ⟨_, _, _, _, _, _, _, _, _, rfl, rfl, (.cons .nil)⟩ rfl rfl rfl rfl rfl (by decide +kernel) (by decide +kernel) rfl rfl rfl (fun us hl => match us, hl with | [_, _], _ => rfl) (by decide +kernel) (by decide +kernel) (by decide)
      (case p1 => k_is)
      (case p2 => k_is)
      (case p3 => k_is)
      (case p4 => k_is)
      (case p5 => k_is)
      (case p6 => k_is)
      (case p7 => k_is)
      (case p8 => k_is)
      (case p9 => k_is)
      (case q1 => k_is)
      (case q2 => k_is)
      (case q3 => k_is)
      (case q4 => k_is)
      (case q5 => k_is)
      (case q6 => kernel_rfl)
      (case q7 => decide +kernel)
      (case q8 => refine Lk.all_in ?_; refine ⟨?_, ?_⟩; (· k_is); exact trivial)
      (case r1 => rfl)
      (case r2 => kernel_rfl)
    (case e_BadNode => refine Lk.exc_ef ?_ ?_ ?_ ?_ ?_ ?_ ?_ ?_ <;> k_is)
    (case s_BadNode_LinkError => k_is)
    (case s_BadNode_LogError => k_is)
    (case s_BadNode_BadOperation => k_is)
    (case s_BadNode_Illegal => k_is)
    (case s_BadNode_BadSize => k_is)
    (case s_BadNode_BadNode => k_is)
    (case s_BadNode_BadGap => k_is)
    (case s_BadNode_BadDump => k_is)
    case x_BadGap =>
      refine' LkX.exc_mk (st := Lk.s_BadGap___init__) (qual := "BadGap.__init__") ?p1 ?p2 ?p3 ?p4 ?p5 ?p6 ?p7 ?p8 ?p9 ?q1 ?q2 ?q3 ?q4 ?q5 ?q6 ?q7 ?q8 ?r1 ?r2 ⟨_, _, _, _, _, _, _, _, _, rfl, rfl, (.cons .nil)⟩ rfl rfl rfl rfl rfl (by decide +kernel) (by decide +kernel) rfl rfl rfl (fun us hl => match us, hl with | [_, _], _ => rfl) (by decide +kernel) (by decide +kernel) (by decide)
      (case p1 => k_is)
      (case p2 => k_is)
      (case p3 => k_is)
      (case p4 => k_is)
      (case p5 => k_is)
      (case p6 => k_is)
      (case p7 => k_is)
      (case p8 => k_is)
      (case p9 => k_is)
      (case q1 => k_is)
      (case q2 => k_is)
      (case q3 => k_is)
      (case q4 => k_is)
      (case q5 => k_is)
      (case q6 => kernel_rfl)
      (case q7 => decide +kernel)
      (case q8 => refine Lk.all_in ?_; refine ⟨?_, ?_⟩; (· k_is); exact trivial)
      (case r1 => rfl)
      (case r2 => kernel_rfl)
    (case e_BadGap => refine Lk.exc_ef ?_ ?_ ?_ ?_ ?_ ?_ ?_ ?_ <;> k_is)
    (case s_BadGap_LinkError => k_is)
    (case s_BadGap_LogError => k_is)
    (case s_BadGap_BadOperation => k_is)
    (case s_BadGap_Illegal => k_is)
    (case s_BadGap_BadSize => k_is)
    (case s_BadGap_BadNode => k_is)
    (case s_BadGap_BadGap => k_is)
    (case s_BadGap_BadDump => k_is)
    case x_BadDump =>
      refine' LkX.exc_mk (st := Lk.s_BadDump___init__) (qual := "BadDump.__init__") ?p1 ?p2 ?p3 ?p4 ?p5 ?p6 ?p7 ?p8 ?p9 ?q1 ?q2 ?q3 ?q4 ?q5 ?q6 ?q7 ?q8 ?r1 ?r2 ⟨_, _, _, _, _, _, _, _, _, rfl, rfl, (.cons .nil)⟩ rfl rfl rfl rfl rfl (by decide +kernel) (by decide +kernel) rfl rfl rfl (fun us hl => match us, hl with | [_, _], _ => rfl) (by decide +kernel) (by decide +kernel) (by decide)
      (case p1 => k_is)
      (case p2 => k_is)
      (case p3 => k_is)
      (case p4 => k_is)
      (case p5 => k_is)
      (case p6 => k_is)
      (case p7 => k_is)
      (case p8 => k_is)
      (case p9 => k_is)
      (case q1 => k_is)
      (case q2 => k_is)
      (case q3 => k_is)
      (case q4 => k_is)
      (case q5 => k_is)
      (case q6 => kernel_rfl)
      (case q7 => decide +kernel)
      (case q8 => refine Lk.all_in ?_; refine ⟨?_, ?_⟩; (· k_is); exact trivial)
      (case r1 => rfl)
      (case r2 => kernel_rfl)
    (case e_BadDump => refine Lk.exc_ef ?_ ?_ ?_ ?_ ?_ ?_ ?_ ?_ <;> k_is)
    (case s_BadDump_LinkError => k_is)
    (case s_BadDump_LogError => k_is)
    (case s_BadDump_BadOperation => k_is)
    (case s_BadDump_Illegal => k_is)
    (case s_BadDump_BadSize => k_is)
    (case s_BadDump_BadNode => k_is)
    (case s_BadDump_BadGap => k_is)
    (case s_BadDump_BadDump => k_is)
    (case a_check_size => k_is)
    (case l_check_size => k_is)
    (case c_check_size => k_is)
    (case k_check_size => k_is)
    (case a_check_operation => k_is)
    (case l_check_operation => k_is)
    (case c_check_operation => k_is)
    (case k_check_operation => k_is)
    (case a_check_log => k_is)
    (case l_check_log => k_is)
    (case c_check_log => k_is)
    (case k_check_log => k_is)
    (case a__is_legal => k_is)
    (case l__is_legal => k_is)
    (case c__is_legal => k_is)
    (case k__is_legal => k_is)
    (case a_check_gap => k_is)
    (case l_check_gap => k_is)
    (case c_check_gap => k_is)
    (case k_check_gap => k_is)
    (case a_left_holds => k_is)
    (case l_left_holds => k_is)
    (case c_left_holds => k_is)
    (case k_left_holds => k_is)
    (case a_right_holds => k_is)
    (case l_right_holds => k_is)
    (case c_right_holds => k_is)
    (case k_right_holds => k_is)
    (case a_gap_state => k_is)
    (case l_gap_state => k_is)
    (case c_gap_state => k_is)
    (case k_gap_state => k_is)
    (case a_gap_states => k_is)
    (case l_gap_states => k_is)
    (case c_gap_states => k_is)
    (case k_gap_states => k_is)
    (case a_replay => k_is)
    (case l_replay => k_is)
    (case c_replay => k_is)
    (case k_replay => k_is)
    (case a_moments => k_is)
    (case l_moments => k_is)
    (case c_moments => k_is)
    (case k_moments => k_is)
    (case a_writers => k_is)
    (case l_writers => k_is)
    (case c_writers => k_is)
    (case k_writers => k_is)
    (case a_decided_by => k_is)
    (case l_decided_by => k_is)
    (case c_decided_by => k_is)
    (case k_decided_by => k_is)
    (case a_verdict => k_is)
    (case l_verdict => k_is)
    (case c_verdict => k_is)
    (case k_verdict => k_is)
    (case a_gap_certificate => k_is)
    (case l_gap_certificate => k_is)
    (case c_gap_certificate => k_is)
    (case k_gap_certificate => k_is)
    (case a__is_integer => k_is)
    (case l__is_integer => k_is)
    (case c__is_integer => k_is)
    (case k__is_integer => k_is)
    (case a_is_gap_certificate => k_is)
    (case l_is_gap_certificate => k_is)
    (case c_is_gap_certificate => k_is)
    (case k_is_gap_certificate => k_is)
    (case a__law_bag => k_is)
    (case l__law_bag => k_is)
    (case c__law_bag => k_is)
    (case k__law_bag => k_is)
    (case a__law_draw => k_is)
    (case l__law_draw => k_is)
    (case c__law_draw => k_is)
    (case k__law_draw => k_is)
    (case a__law_size => k_is)
    (case l__law_size => k_is)
    (case c__law_size => k_is)
    (case k__law_size => k_is)
    (case a__law_whole => k_is)
    (case l__law_whole => k_is)
    (case c__law_whole => k_is)
    (case k__law_whole => k_is)
    (case a__law_planted => k_is)
    (case l__law_planted => k_is)
    (case c__law_planted => k_is)
    (case k__law_planted => k_is)
    (case a__law_log => k_is)
    (case l__law_log => k_is)
    (case c__law_log => k_is)
    (case k__law_log => k_is)
    (case a__law_state => k_is)
    (case l__law_state => k_is)
    (case c__law_state => k_is)
    (case k__law_state => k_is)
    (case a__law_step => k_is)
    (case l__law_step => k_is)
    (case c__law_step => k_is)
    (case k__law_step => k_is)
    (case a__law_whole_number => k_is)
    (case l__law_whole_number => k_is)
    (case c__law_whole_number => k_is)
    (case k__law_whole_number => k_is)
    (case a__law_numbers => k_is)
    (case l__law_numbers => k_is)
    (case c__law_numbers => k_is)
    (case k__law_numbers => k_is)
    (case a__law_number_or_none => k_is)
    (case l__law_number_or_none => k_is)
    (case c__law_number_or_none => k_is)
    (case k__law_number_or_none => k_is)
    (case a__law_book => k_is)
    (case l__law_book => k_is)
    (case c__law_book => k_is)
    (case k__law_book => k_is)
    (case a__law_bears => k_is)
    (case l__law_bears => k_is)
    (case c__law_bears => k_is)
    (case k__law_bears => k_is)
    (case a__law_verdict_fits => k_is)
    (case l__law_verdict_fits => k_is)
    (case c__law_verdict_fits => k_is)
    (case k__law_verdict_fits => k_is)
    (case a__law_made => k_is)
    (case l__law_made => k_is)
    (case c__law_made => k_is)
    (case k__law_made => k_is)
    (case a__law_is_paper => k_is)
    (case l__law_is_paper => k_is)
    (case c__law_is_paper => k_is)
    (case k__law_is_paper => k_is)
    (case a__law_bents => k_is)
    (case l__law_bents => k_is)
    (case c__law_bents => k_is)
    (case k__law_bents => k_is)
    (case a__law_judged => k_is)
    (case l__law_judged => k_is)
    (case c__law_judged => k_is)
    (case k__law_judged => k_is)
    (case a__law_papers_fit => k_is)
    (case l__law_papers_fit => k_is)
    (case c__law_papers_fit => k_is)
    (case k__law_papers_fit => k_is)
    (case a__law_agrees => k_is)
    (case l__law_agrees => k_is)
    (case c__law_agrees => k_is)
    (case k__law_agrees => k_is)
    (case a__law_fault => k_is)
    (case l__law_fault => k_is)
    (case c__law_fault => k_is)
    (case k__law_fault => k_is)
    (case a__law_spoilt => k_is)
    (case l__law_spoilt => k_is)
    (case c__law_spoilt => k_is)
    (case k__law_spoilt => k_is)
    (case a__law_trials => k_is)
    (case l__law_trials => k_is)
    (case c__law_trials => k_is)
    (case k__law_trials => k_is)
    (case a__law_places => k_is)
    (case l__law_places => k_is)
    (case c__law_places => k_is)
    (case k__law_places => k_is)
    (case a__law_answer => k_is)
    (case l__law_answer => k_is)
    (case c__law_answer => k_is)
    (case k__law_answer => k_is)
    (case a__law_refuses => k_is)
    (case l__law_refuses => k_is)
    (case c__law_refuses => k_is)
    (case k__law_refuses => k_is)
    (case a_law => k_is)
    (case l_law => k_is)
    (case c_law => k_is)
    (case k_law => k_is)
    (case b_ValueError => k_is)
    (case b_enumerate => k_is)
    (case b_range => k_is)
    (case b_abs => k_is)
    (case b_list => k_is)
    (case b_int => k_is)
    (case b_len => k_is)
    (case b_isinstance => k_is)
    (case b_min => k_is)
    (case b_bool => k_is)
    (case b_str => k_is)
    (case b_tuple => k_is)
    (case b_super => k_is)
    (case k_MOST_NODES => k_is)
    (case k_MOST_DIGITS => k_is)
    (case k_PARTS => k_is)
